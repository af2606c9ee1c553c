import PyProof.Rows.All
import Wide.All
import OpenK.AllK
import Wide.FinOn
import HandS.ForMost
import HandS.ForExc
import HandS.Wide
import HandS.Walk
import HandS.Zip
import HandS.TupAny
import HandS.TupMul
import HandS.IsInst
import HandS.Deep
import HandS.Style
import HandS.Lambda
import HandS.HeadHook4
import HandS.Exc
import KE.GoesEnum
import HandS.Dict
import HandS.Iter
import HandS.Head0
import HandS.Head1
import HandS.Head2
import HandS.HeadEnd
import HandS.HeadHook1
import HandS.HeadHook2
import HandS.HeadHook3
import HandS.SortInts
import HandS.TupSets
import HandS.Nested
import HandS.HeadWalk
import KE.SortData
import HandS.More
import KE.KDictPairs
import PyProof.EqKinds
import PyProof.SeqIndex
import HandS.ExcOwn
import HandS.ExcIs
import HandS.WordsExc
import PyProof.ExcBaseAll.ValueError
import HandS.ExcValue
import HandS.CallLocal
import HandS.FStr
import PyProof.ListStr
import PySem.Challenge.RW_payladders_k01_argument_ends
set_option Elab.async false
set_option linter.all false
set_option maxRecDepth 100000
set_option maxHeartbeats 0
namespace Sx
open PySem PySem.Spec PyProof.Rows L2
/-- defs that make lambdas -/
def lamDefs (K : PySem.W.Frag) : List He.Defn := [("greatest_part" : Str), "least_part"].filterMap fun x => match PySem.W.nsIn K mainGlobals x with
  | some (some (.ref _)) => some (x, none)
  | _ => none
end Sx

namespace Sx
open PySem PySem.Spec PyProof.Rows L2
def isZ : List Value → Bool
  | [.int i _, .int j _] => decide (i = 0) && decide (j = 1)
  | _ => false
def exZ (K : PySem.W.Frag) : Bool := match K.lookup (He.ga K "ZERO") with
  | some o => match o.cls, o.data with
    | .type c, .seq its _ => decide (c = "tuple") && (decide (its.size ≤ 2) && (isZ its.toList && o.dict.isNone))
    | _, _ => false
  | none => false
end Sx

namespace Sx
open PySem PySem.Spec PyProof.Rows L2 LamX
def lamNames : List He.Defn := [("greatest_part", none), ("least_part", none)]
/-- a program with both lambdas -/
def exL2 (ex : PySem.W.Frag → Bool) (K : PySem.W.Frag) : Bool := ex K && (decide (lamDefs K = lamNames) && (decide ((He.cT K ("greatest_part", none)).2 ≠ (He.cT K ("least_part", none)).2)))
end Sx

namespace Sx
open PySem PySem.Spec PyProof.Rows L2
def excN : List Str := ["InvalidLadder", "InvalidHolder", "InvalidAmount", "InvalidNumber", "InvalidGoal", "InvalidOptions", "InvalidChoice", "InvalidText", "Unlike", "NotSimple", "TooMany", "TooMuch", "NothingToUndo"]
end Sx

namespace Sx
open PySem PySem.Spec PyProof.Rows L2
def exC1 (K : PySem.W.Frag) (c : Str) : Bool := He.eqO (PySem.W.findIn K (.ref (He.ga K c)) "__getattribute__") (some (some (.builtin "BaseException.__getattribute__"))) &&
  (He.eqO (PySem.W.findIn K (.ref (He.ga K c)) "__getattr__") (some none) && (decide (PySem.W.subIn K (.ref (He.ga K c)) (.type "BaseException") = some true) && (PySem.W.hasDictIn K (He.ga K c) &&
  (He.eqO (PySem.W.findIn K (.ref (He.ga K c)) "__class__") (some (some (.builtin "object.__class__"))) && (He.eqO (PySem.W.specialIn K (.builtin "object.__class__") "__get__") (some (some (.builtin "getset_descriptor.__get__"))) &&
  (decide (PySem.W.takesIn K (.builtin "object.__class__") = some true) && decide (PySem.W.mroIn K (He.ga K c) (.type "object") = some true)))))))
def exC2 (K : PySem.W.Frag) (c : Str) : Bool := decide (PySem.W.kitOne K (.ref (He.ga K c)) (.type "ValueError") = some true) && (decide (PySem.W.exmOne K (.ref (He.ga K c)) (.ref (He.ga K "LadderError")) = some true) &&
  excN.all fun d => decide (PySem.W.kitOne K (.ref (He.ga K c)) (.ref (He.ga K d)) = some (decide (c = d))))
def exE (K : PySem.W.Frag) : Bool := excN.all fun c => exC1 K c && (exC2 K c && (He.Fa.exc c).ok K)
def exZE (K : PySem.W.Frag) : Bool := exZ K && exE K
end Sx

namespace Sx
open PySem PySem.W PySem.Calls PyProof.Rows HandSHeadRun
def RunA (r : OpenRow) (q : Program) (M : Nat) (loose : List PySem.Str) (w : World) : Prop :=
  ∀ os : OsState, (endF (stepQ (denQ tabQ) r.prog w) M r.prog w os).map (fun s => (looksF r.prog (boot_heap w.params) s.abs, seenQ q loose (importedModules r.prog.main.body) (fun s => xlAt q [] s && recOk r.toRowW.records s) s.abs)) = some (true, openGood q loose)
def RunB (r : OpenRow) (H : Hook) (ob : SharedT → H.α) (M : Nat) (w : World) : Prop :=
  ∀ os : OsState, (endF (stepQ (denQ tabQ) r.prog w) M r.prog w os).map (fun s => ob s) = some (H.val w)
theorem run_join {r : OpenRow} {q : Program} {H : Hook} {ob : SharedT → H.α} {M : Nat} {loose : List PySem.Str} {w : World} (a : RunA r q M loose w) (b : RunB r H ob M w) : RunEq r q H ob M loose w := fun os => by
  have a := a os
  have b := b os
  cases h : endF (stepQ (denQ tabQ) r.prog w) M r.prog w os with
  | none => rw [h] at a; cases a
  | some s =>
    rw [h] at a b
    have a := Option.some.inj a
    have b : ob s = H.val w := Option.some.inj b
    injection a with a1 a2
    show some (_, _, _) = some (_, _, _)
    rw [a1, a2, b]
end Sx
namespace Sx
open PySem PySem.Spec PyProof.Rows L2
def top (i : Nat) : Stmt := PySem.Challenge.pw_payladders_k01_argument_ends.main.body.getD i (.Pass ⟨0, 0, 0, 0⟩)
abbrev R : PySem.W.OpenRow := PySem.W.OpenLaw.row PySem.Challenge.rw_payladders_k01_argument_ends
def dd_is_between : He.DefD := ⟨("is_between", none), "is_between", "is_between", defArgs (top 18), defBody (top 18), defScope (top 18), [], []⟩
def dd_divisor : He.DefD := ⟨("divisor", none), "divisor", "divisor", defArgs (top 19), defBody (top 19), defScope (top 19), [], []⟩
def dd_fraction : He.DefD := ⟨("fraction", none), "fraction", "fraction", defArgs (top 20), defBody (top 20), defScope (top 20), [], []⟩
def dd_plus : He.DefD := ⟨("plus", none), "plus", "plus", defArgs (top 21), defBody (top 21), defScope (top 21), [], []⟩
def dd_minus : He.DefD := ⟨("minus", none), "minus", "minus", defArgs (top 22), defBody (top 22), defScope (top 22), [], []⟩
def dd_product : He.DefD := ⟨("product", none), "product", "product", defArgs (top 23), defBody (top 23), defScope (top 23), [], []⟩
def dd_quotient : He.DefD := ⟨("quotient", none), "quotient", "quotient", defArgs (top 24), defBody (top 24), defScope (top 24), [], []⟩
def dd_is_less : He.DefD := ⟨("is_less", none), "is_less", "is_less", defArgs (top 25), defBody (top 25), defScope (top 25), [], []⟩
def dd_lesser : He.DefD := ⟨("lesser", none), "lesser", "lesser", defArgs (top 26), defBody (top 26), defScope (top 26), [], []⟩
def dd_are_pairs : He.DefD := ⟨("are_pairs", none), "are_pairs", "are_pairs", defArgs (top 27), defBody (top 27), defScope (top 27), [], []⟩
def dd_is_rung : He.DefD := ⟨("is_rung", none), "is_rung", "is_rung", defArgs (top 28), defBody (top 28), defScope (top 28), [], []⟩
def dd_is_endless : He.DefD := ⟨("is_endless", none), "is_endless", "is_endless", defArgs (top 29), defBody (top 29), defScope (top 29), [], []⟩
def dd_is_ladder : He.DefD := ⟨("is_ladder", none), "is_ladder", "is_ladder", defArgs (top 30), defBody (top 30), defScope (top 30), [], []⟩
def dd_check_ladder : He.DefD := ⟨("check_ladder", none), "check_ladder", "check_ladder", defArgs (top 31), defBody (top 31), defScope (top 31), [], []⟩
def dd_check_holder : He.DefD := ⟨("check_holder", none), "check_holder", "check_holder", defArgs (top 32), defBody (top 32), defScope (top 32), [], []⟩
def dd_is_amount : He.DefD := ⟨("is_amount", none), "is_amount", "is_amount", defArgs (top 33), defBody (top 33), defScope (top 33), [], []⟩
def dd_check_amount : He.DefD := ⟨("check_amount", none), "check_amount", "check_amount", defArgs (top 34), defBody (top 34), defScope (top 34), [], []⟩
def dd_reached : He.DefD := ⟨("reached", none), "reached", "reached", defArgs (top 35), defBody (top 35), defScope (top 35), [], []⟩
def dd_needed_for : He.DefD := ⟨("needed_for", none), "needed_for", "needed_for", defArgs (top 36), defBody (top 36), defScope (top 36), [], []⟩
def dd_fixed_pieces : He.DefD := ⟨("fixed_pieces", none), "fixed_pieces", "fixed_pieces", defArgs (top 38), defBody (top 38), defScope (top 38), [], []⟩
def dd_share_pieces : He.DefD := ⟨("share_pieces", none), "share_pieces", "share_pieces", defArgs (top 39), defBody (top 39), defScope (top 39), [], []⟩
def dd_rung_pieces : He.DefD := ⟨("rung_pieces", none), "rung_pieces", "rung_pieces", defArgs (top 40), defBody (top 40), defScope (top 40), [], []⟩
def dd_pieces_of : He.DefD := ⟨("pieces_of", none), "pieces_of", "pieces_of", defArgs (top 41), defBody (top 41), defScope (top 41), [], []⟩
def dd_found_bends : He.DefD := ⟨("found_bends", none), "found_bends", "found_bends", defArgs (top 42), defBody (top 42), defScope (top 42), [], []⟩
def dd_payment_at : He.DefD := ⟨("payment_at", none), "payment_at", "payment_at", defArgs (top 43), defBody (top 43), defScope (top 43), [], []⟩
def dd_all_payments : He.DefD := ⟨("all_payments", none), "all_payments", "all_payments", defArgs (top 44), defBody (top 44), defScope (top 44), [], []⟩
def dd_pay : He.DefD := ⟨("pay", none), "pay", "pay", defArgs (top 46), defBody (top 46), defScope (top 46), [], []⟩
def dd_pay_rungs : He.DefD := ⟨("pay_rungs", none), "pay_rungs", "pay_rungs", defArgs (top 47), defBody (top 47), defScope (top 47), [], []⟩
def dd_pay_next : He.DefD := ⟨("pay_next", none), "pay_next", "pay_next", defArgs (top 48), defBody (top 48), defScope (top 48), [], []⟩
def dd_least_amount : He.DefD := ⟨("least_amount", none), "least_amount", "least_amount", defArgs (top 49), defBody (top 49), defScope (top 49), [], []⟩
def dd_bends : He.DefD := ⟨("bends", none), "bends", "bends", defArgs (top 51), defBody (top 51), defScope (top 51), [], []⟩
def dd_rate_after : He.DefD := ⟨("rate_after", none), "rate_after", "rate_after", defArgs (top 52), defBody (top 52), defScope (top 52), [], []⟩
def dd_check_both : He.DefD := ⟨("check_both", none), "check_both", "check_both", defArgs (top 54), defBody (top 54), defScope (top 54), [], []⟩
def dd_check_like : He.DefD := ⟨("check_like", none), "check_like", "check_like", defArgs (top 55), defBody (top 55), defScope (top 55), [], []⟩
def dd_rate_at : He.DefD := ⟨("rate_at", none), "rate_at", "rate_at", defArgs (top 56), defBody (top 56), defScope (top 56), [], []⟩
def dd_in_order : He.DefD := ⟨("in_order", none), "in_order", "in_order", defArgs (top 57), defBody (top 57), defScope (top 57), [], []⟩
def dd_sign_of : He.DefD := ⟨("sign_of", none), "sign_of", "sign_of", defArgs (top 58), defBody (top 58), defScope (top 58), [], []⟩
def dd_found_signs : He.DefD := ⟨("found_signs", none), "found_signs", "found_signs", defArgs (top 59), defBody (top 59), defScope (top 59), [], []⟩
def dd_first_parting : He.DefD := ⟨("first_parting", none), "first_parting", "first_parting", defArgs (top 60), defBody (top 60), defScope (top 60), [], []⟩
def dd_are_alike : He.DefD := ⟨("are_alike", none), "are_alike", "are_alike", defArgs (top 61), defBody (top 61), defScope (top 61), [], []⟩
def dd_parting_after : He.DefD := ⟨("parting_after", none), "parting_after", "parting_after", defArgs (top 62), defBody (top 62), defScope (top 62), [], []⟩
def dd_gains : He.DefD := ⟨("gains", none), "gains", "gains", defArgs (top 63), defBody (top 63), defScope (top 63), [], []⟩
def dd_extreme : He.DefD := ⟨("extreme", none), "extreme", "extreme", defArgs (top 65), defBody (top 65), defScope (top 65), [], []⟩
def dd_greatest_part : He.DefD := ⟨("greatest_part", none), "greatest_part", "greatest_part", defArgs (top 66), defBody (top 66), defScope (top 66), [], []⟩
def dd_least_part : He.DefD := ⟨("least_part", none), "least_part", "least_part", defArgs (top 67), defBody (top 67), defScope (top 67), [], []⟩
def dd_check_simple : He.DefD := ⟨("check_simple", none), "check_simple", "check_simple", defArgs (top 69), defBody (top 69), defScope (top 69), [], []⟩
def dd_check_options : He.DefD := ⟨("check_options", none), "check_options", "check_options", defArgs (top 70), defBody (top 70), defScope (top 70), [], []⟩
def dd_check_choice : He.DefD := ⟨("check_choice", none), "check_choice", "check_choice", defArgs (top 71), defBody (top 71), defScope (top 71), [], []⟩
def dd_with_choice : He.DefD := ⟨("with_choice", none), "with_choice", "with_choice", defArgs (top 72), defBody (top 72), defScope (top 72), [], []⟩
def dd_changed : He.DefD := ⟨("changed", none), "changed", "changed", defArgs (top 73), defBody (top 73), defScope (top 73), [], []⟩
def dd_choices_of : He.DefD := ⟨("choices_of", none), "choices_of", "choices_of", defArgs (top 74), defBody (top 74), defScope (top 74), [], []⟩
def dd_is_stable : He.DefD := ⟨("is_stable", none), "is_stable", "is_stable", defArgs (top 75), defBody (top 75), defScope (top 75), [], []⟩
def dd_payments_with : He.DefD := ⟨("payments_with", none), "payments_with", "payments_with", defArgs (top 76), defBody (top 76), defScope (top 76), [], []⟩
def dd_is_settled : He.DefD := ⟨("is_settled", none), "is_settled", "is_settled", defArgs (top 77), defBody (top 77), defScope (top 77), [], []⟩
def dd_settled : He.DefD := ⟨("settled", none), "settled", "settled", defArgs (top 78), defBody (top 78), defScope (top 78), [], []⟩
def dd_joined_pairs : He.DefD := ⟨("joined_pairs", none), "joined_pairs", "joined_pairs", defArgs (top 80), defBody (top 80), defScope (top 80), [], []⟩
def dd_check_fit : He.DefD := ⟨("check_fit", none), "check_fit", "check_fit", defArgs (top 81), defBody (top 81), defScope (top 81), [], []⟩
def dd_joined : He.DefD := ⟨("joined", none), "joined", "joined", defArgs (top 82), defBody (top 82), defScope (top 82), [], []⟩
def dd__law_town : He.DefD := ⟨("_law_town", none), "_law_town", "_law_town", defArgs (top 84), defBody (top 84), defScope (top 84), [], []⟩
def dd__law_draw : He.DefD := ⟨("_law_draw", none), "_law_draw", "_law_draw", defArgs (top 85), defBody (top 85), defScope (top 85), [], []⟩
def dd__law_pick : He.DefD := ⟨("_law_pick", none), "_law_pick", "_law_pick", defArgs (top 86), defBody (top 86), defScope (top 86), [], []⟩
def dd__law_outcome : He.DefD := ⟨("_law_outcome", none), "_law_outcome", "_law_outcome", defArgs (top 87), defBody (top 87), defScope (top 87), [], []⟩
def dd__law_name : He.DefD := ⟨("_law_name", none), "_law_name", "_law_name", defArgs (top 88), defBody (top 88), defScope (top 88), [], []⟩
def dd__law_raises : He.DefD := ⟨("_law_raises", none), "_law_raises", "_law_raises", defArgs (top 89), defBody (top 89), defScope (top 89), [], []⟩
def dd__law_pairs : He.DefD := ⟨("_law_pairs", none), "_law_pairs", "_law_pairs", defArgs (top 90), defBody (top 90), defScope (top 90), [], []⟩
def dd__law_rung : He.DefD := ⟨("_law_rung", none), "_law_rung", "_law_rung", defArgs (top 91), defBody (top 91), defScope (top 91), [], []⟩
def dd__law_ladder : He.DefD := ⟨("_law_ladder", none), "_law_ladder", "_law_ladder", defArgs (top 92), defBody (top 92), defScope (top 92), [], []⟩
def dd__law_call : He.DefD := ⟨("_law_call", none), "_law_call", "_law_call", defArgs (top 93), defBody (top 93), defScope (top 93), [], []⟩
def dd__law_bads : He.DefD := ⟨("_law_bads", none), "_law_bads", "_law_bads", defArgs (top 94), defBody (top 94), defScope (top 94), [], []⟩
def dd__law_wrongs : He.DefD := ⟨("_law_wrongs", none), "_law_wrongs", "_law_wrongs", defArgs (top 95), defBody (top 95), defScope (top 95), [], []⟩
def dd_law : He.DefD := ⟨("law", none), "law", "law", defArgs (top 96), defBody (top 96), defScope (top 96), [], []⟩
def fn : List He.DefD := [dd_is_between, dd_divisor, dd_fraction, dd_plus, dd_minus, dd_product, dd_quotient, dd_is_less, dd_lesser, dd_are_pairs, dd_is_rung, dd_is_endless, dd_is_ladder, dd_check_ladder, dd_check_holder, dd_is_amount, dd_check_amount, dd_reached, dd_needed_for, dd_fixed_pieces, dd_share_pieces, dd_rung_pieces, dd_pieces_of, dd_found_bends, dd_payment_at, dd_all_payments, dd_pay, dd_pay_rungs, dd_pay_next, dd_least_amount, dd_bends, dd_rate_after, dd_check_both, dd_check_like, dd_rate_at, dd_in_order, dd_sign_of, dd_found_signs, dd_first_parting, dd_are_alike, dd_parting_after, dd_gains, dd_extreme, dd_greatest_part, dd_least_part, dd_check_simple, dd_check_options, dd_check_choice, dd_with_choice, dd_changed, dd_choices_of, dd_is_stable, dd_payments_with, dd_is_settled, dd_settled, dd_joined_pairs, dd_check_fit, dd_joined, dd__law_town, dd__law_draw, dd__law_pick, dd__law_outcome, dd__law_name, dd__law_raises, dd__law_pairs, dd__law_rung, dd__law_ladder, dd__law_call, dd__law_bads, dd__law_wrongs, dd_law]
def fa0 : List He.Fa := [.glo "is_between", .glo "divisor", .glo "fraction", .glo "plus", .glo "minus", .glo "product", .glo "quotient", .glo "is_less", .glo "lesser", .glo "are_pairs", .glo "is_rung", .glo "is_endless", .glo "is_ladder", .glo "check_ladder", .glo "check_holder", .glo "is_amount", .glo "check_amount", .glo "reached", .glo "needed_for", .glo "fixed_pieces", .glo "share_pieces", .glo "rung_pieces", .glo "pieces_of", .glo "found_bends", .glo "payment_at", .glo "all_payments", .glo "pay", .glo "pay_rungs", .glo "pay_next", .glo "least_amount"]
def fa1 : List He.Fa := [.glo "bends", .glo "rate_after", .glo "check_both", .glo "check_like", .glo "rate_at", .glo "in_order", .glo "sign_of", .glo "found_signs", .glo "first_parting", .glo "are_alike", .glo "parting_after", .glo "gains", .glo "extreme", .glo "greatest_part", .glo "least_part", .glo "check_simple", .glo "check_options", .glo "check_choice", .glo "with_choice", .glo "changed", .glo "choices_of", .glo "is_stable", .glo "payments_with", .glo "is_settled", .glo "settled", .glo "joined_pairs", .glo "check_fit", .glo "joined", .glo "_law_town", .glo "_law_draw"]
def fa2 : List He.Fa := [.glo "_law_pick", .glo "_law_outcome", .glo "_law_name", .glo "_law_raises", .glo "_law_pairs", .glo "_law_rung", .glo "_law_ladder", .glo "_law_call", .glo "_law_bads", .glo "_law_wrongs", .glo "law", .free "len", .free "sum", .free "all", .free "any", .free "tuple", .free "list", .free "abs", .free "int", .free "str", .free "bool", .free "max", .free "min", .free "dict", .free "range", .free "enumerate", .free "zip", .free "sorted", .free "isinstance", .int "MOST" 1000000]
def fa3 : List He.Fa := [.glo "ZERO", .glo "InvalidLadder", .glo "InvalidHolder", .glo "InvalidAmount", .glo "InvalidNumber", .glo "InvalidGoal", .glo "InvalidOptions", .glo "InvalidChoice", .glo "InvalidText", .glo "Unlike", .glo "NotSimple", .glo "TooMany", .glo "TooMuch", .glo "NothingToUndo", .glo "LadderError", .free "ValueError"]
def fa : List He.Fa := fa0 ++ fa1 ++ fa2 ++ fa3
def loose0 : List Str := ["__name__", "LadderError", "InvalidLadder", "InvalidHolder", "InvalidAmount", "InvalidNumber", "InvalidGoal", "InvalidOptions", "InvalidChoice", "InvalidText", "Unlike", "NotSimple", "TooMany", "TooMuch", "NothingToUndo", "MOST", "ZERO", "is_between", "divisor", "fraction", "plus", "minus", "product", "quotient", "is_less", "lesser", "are_pairs", "is_rung", "is_endless", "is_ladder"]
def loose1 : List Str := ["check_ladder", "check_holder", "is_amount", "check_amount", "reached", "needed_for", "fixed_pieces", "share_pieces", "rung_pieces", "pieces_of", "found_bends", "payment_at", "all_payments", "pay", "pay_rungs", "pay_next", "least_amount", "bends", "rate_after", "check_both", "check_like", "rate_at", "in_order", "sign_of", "found_signs", "first_parting", "are_alike", "parting_after", "gains", "extreme"]
def loose2 : List Str := ["greatest_part", "least_part", "check_simple", "check_options", "check_choice", "with_choice", "changed", "choices_of", "is_stable", "payments_with", "is_settled", "settled", "joined_pairs", "check_fit", "joined", "_law_town", "_law_draw", "_law_pick", "_law_outcome", "_law_name", "_law_raises", "_law_pairs", "_law_rung", "_law_ladder", "_law_call", "_law_bads", "_law_wrongs"]
def loose : List Str := loose0 ++ loose1 ++ loose2
abbrev hk : PySem.W.Hook := He.hookX 4 fa fn [] lamNames (exL2 exZE)
def ob (s : PySem.W.SharedT) : He.AlX := He.obsX 4 fa fn [] lamNames (exL2 exZE) (HandSHeadRun.getT s)
theorem ob_eq (s : PySem.W.SharedT) : ob s = hk.obs s.abs := He.obsX_eq (HandSHeadRun.getT_eq s)
theorem runA (w : World) : RunA R (PySem.W.view R.prog [96]) 8000 loose w := by
  intro os
  kernel_rfl
theorem runB (w : World) : RunB R hk ob 8000 w := by
  intro os
  kernel_rfl
theorem run (w : World) : HandSHeadRun.RunEq R (PySem.W.view R.prog [96]) hk ob 8000 loose w := run_join (runA w) (runB w)
end Sx

/-! Sx: a semantic layer: every piece of code is read as a plain function over data. -/
namespace Sx
open PySem PySem.Spec PyProof.Rows L2

abbrev Dt := PyData
/-- a result: a value, an exception (its class), or nothing that is claimed -/
inductive Res (α : Type) where
  | ok (a : α) | exc (c : Str) | bad
def Res.bind {α β : Type} : Res α → (α → Res β) → Res β
  | .ok a, f => f a
  | .exc c, _ => .exc c
  | .bad, _ => .bad
@[simp] theorem Res.bind_ok {α β : Type} (a : α) (f : α → Res β) : Res.bind (.ok a) f = f a := rfl
@[simp] theorem Res.bind_exc {α β : Type} (c : Str) (f : α → Res β) : Res.bind (.exc c) f = .exc c := rfl
@[simp] theorem Res.bind_bad {α β : Type} (f : α → Res β) : Res.bind .bad f = .bad := rfl
/-- what a slot holds: data that never changes; an own list; a list of own lists; an own dict; the town -/
inductive SV where
  | d (x : Dt) | own (xs : List Dt) | ow2 (rows : List (List Dt)) | dk (kvs : List (Int × Dt)) | fd (kvs : List (Int × Dt)) | tb (kvs : List (Dt × Dt)) | fn (x : Str) | ex (c : Str) | se (L : Dt) (D U : List Dt) | town
abbrev Sl := List (Option SV)
abbrev Tw := Option (List Dt)

/-! ### data over heaps -/
theorem rd_mono {F F' : Hp} {a : Addr} {u : HO} (e : Same F F') (h : Rd F a u) : Rd F' a u := by
  rcases h with h | ⟨o, h⟩
  · exact .inl (e _ _ h)
  · exact .inr ⟨o, e _ _ h⟩
theorem sqT_mono {K : PySem.W.Frag} {F F' : Hp} {a : Addr} {xs : List V} (e : Same F F') (h : SqT K F a xs) : SqT K F' a xs := by
  rcases h with h | h
  · exact .inl (rd_mono e h)
  · exact .inr h
/-- a dict whose keys are tuples of ints: its entries -/
def TabO (a : Addr) (xs : List (List Key × Addr × Value)) : HO := .ext fun h => (xs.length ≤ sizeLine ∧ (a == sysModules) = false ∧ (xs.map (·.1)).Nodup) ∧ ∃ o es ep, h.get? a = some o ∧ o.ExactDict ∧ o.data = .dict es ep ∧ ∀ (P : Program) (w : World), es.toList = xs.map (entryOfKey (tupleKind (mixKind P w)))
/-- the object at a has no dict of its own -/
def PlT (K : PySem.W.Frag) (F : Hp) (a : Addr) (xs : List V) : Prop := (∃ o, F a = some (.frz o (.tup xs)) ∧ o.dict = none) ∨ ∃ o, K.lookup a = some o ∧ o.dict = none
theorem plT_mono {K : PySem.W.Frag} {F F' : Hp} {a : Addr} {xs : List V} (e : Same F F') (h : PlT K F a xs) : PlT K F' a xs := by
  rcases h with ⟨o, h1, h2⟩ | h
  · exact .inl ⟨o, e _ _ h1, h2⟩
  · exact .inr h
mutual
/-- data over a heap: a list is a tracked one -/
inductive Dq (K : PySem.W.Frag) (H : Hp) : V → Dt → Prop
  | non : Dq K H .non .none
  | bl (b : Bool) : Dq K H (.bl b) (.bool b)
  | int (i : Int) : Dq K H (.int i) (.int i)
  | str (x : Str) : Dq K H (.str x) (.str x)
  | lst {a : Addr} {xs : List V} {ds : List Dt} : SqL K H a xs → DqAll K H xs ds → Dq K H (.ref a) (.list ds)
  | tup {a : Addr} {xs : List V} {ds : List Dt} : SqT K H a xs → DqAll K H xs ds → PlT K H a xs → Dq K H (.ref a) (.tuple ds)
  | tab {a : Addr} {xs : List (List Key × Addr × Value)} {kvs : List (Dt × Dt)} : H a = some (TabO a xs) → DqTab K H xs kvs → Dq K H (.ref a) (.dict kvs)
inductive DqAll (K : PySem.W.Frag) (H : Hp) : List V → List Dt → Prop
  | nil : DqAll K H [] []
  | cons {v : V} {vs : List V} {d : Dt} {ds : List Dt} : Dq K H v d → DqAll K H vs ds → DqAll K H (v :: vs) (d :: ds)
inductive DqTab (K : PySem.W.Frag) (H : Hp) : List (List Key × Addr × Value) → List (Dt × Dt) → Prop
  | nil : DqTab K H [] []
  | cons {ks : List Int} {b : Addr} {u : Value} {v : V} {d : Dt} {xs : List (List Key × Addr × Value)} {kvs : List (Dt × Dt)} : SqT K H b (ks.map V.int) → L2.RelV v u → Dq K H v d → DqTab K H xs kvs → DqTab K H ((ks.map Sum.inl, b, u) :: xs) ((.tuple (ks.map PyData.int), d) :: kvs)
end
mutual
theorem dq_dp {K : PySem.W.Frag} {F F' : Hp} (e : Same F F') : ∀ (d : Dt) (v : V), d.canLay0 = true → Dq K F v d → Dp K F' v d
  | .none, _, _, h => by cases h; exact .non
  | .bool b, _, _, h => by cases h; exact .bl b
  | .int i, _, _, h => by cases h; exact .int i
  | .str x, _, _, h => by cases h; exact .str x
  | .list ds, _, c, h => by
    cases h with
    | lst hs ha => exact .lst (e.seq hs) (dqAll_dp e ds _ (by simpa [PyData.canLay0] using c) ha)
  | .tuple ds, _, c, h => by
    cases h with
    | tup hs ha => exact .tup (sqT_mono e hs) (dqAll_dp e ds _ (by simpa [PyData.canLay0] using c) ha)
  | .dict _, _, c, _ => nomatch c
theorem dqAll_dp {K : PySem.W.Frag} {F F' : Hp} (e : Same F F') : ∀ (ds : List Dt) (vs : List V), PyData.canLayAll0 ds = true → DqAll K F vs ds → DpAll K F' vs ds
  | [], _, _, h => by cases h; exact .nil
  | d :: ds, _, c, h => by
    have c : d.canLay0 = true ∧ PyData.canLayAll0 ds = true := by simpa [PyData.canLayAll0] using c
    cases h with
    | cons h1 h2 => exact .cons (dq_dp e d _ c.1 h1) (dqAll_dp e ds _ c.2 h2)
end
mutual
theorem dq_mono {K : PySem.W.Frag} {F F' : Hp} (e : Same F F') : ∀ (d : Dt) (v : V), Dq K F v d → Dq K F' v d
  | .none, _, h => by cases h; exact .non
  | .bool b, _, h => by cases h; exact .bl b
  | .int i, _, h => by cases h; exact .int i
  | .str x, _, h => by cases h; exact .str x
  | .list ds, _, h => by
    cases h with
    | lst hs ha => exact .lst (e.seq hs) (dqAll_mono e ds _ ha)
  | .tuple ds, _, h => by
    cases h with
    | tup hs ha hp => exact .tup (sqT_mono e hs) (dqAll_mono e ds _ ha) (plT_mono e hp)
  | .dict kvs, _, h => by
    cases h with
    | tab h1 h2 => exact .tab (e _ _ h1) (dqTab_mono e kvs _ h2)
theorem dqAll_mono {K : PySem.W.Frag} {F F' : Hp} (e : Same F F') : ∀ (ds : List Dt) (vs : List V), DqAll K F vs ds → DqAll K F' vs ds
  | [], _, h => by cases h; exact .nil
  | d :: ds, _, h => by
    cases h with
    | cons h1 h2 => exact .cons (dq_mono e d _ h1) (dqAll_mono e ds _ h2)
theorem dqTab_mono {K : PySem.W.Frag} {F F' : Hp} (e : Same F F') : ∀ (kvs : List (Dt × Dt)) (xs : List (List Key × Addr × Value)), DqTab K F xs kvs → DqTab K F' xs kvs
  | [], _, h => by cases h; exact .nil
  | (k, d) :: kvs, _, h => by
    cases h with
    | cons h1 h2 h3 h4 => exact .cons (sqT_mono e h1) h2 (dq_mono e d _ h3) (dqTab_mono e kvs _ h4)
end
section
variable {K : PySem.W.Frag} {F F' H H' : Hp} {v : V} {vs us : List V} {d : Dt} {ds es : List Dt}
theorem Dq.mono (h : Dq K F v d) (e : Same F F') : Dq K F' v d := dq_mono e d v h
theorem DqAll.mono (h : DqAll K F vs ds) (e : Same F F') : DqAll K F' vs ds := dqAll_mono e ds vs h
theorem DqAll.length : ∀ {vs : List V} {ds : List Dt}, DqAll K F vs ds → vs.length = ds.length
  | _, _, .nil => rfl
  | _, _, .cons _ t => by rw [List.length_cons, List.length_cons, DqAll.length t]
theorem DqAll.get : ∀ {vs : List V} {ds : List Dt} {i : Nat} {v : V}, DqAll K F vs ds → vs[i]? = some v → ∃ d, ds[i]? = some d ∧ Dq K F v d
  | _, _, _, _, .nil, e => by simp at e
  | _, _, 0, _, .cons h _, e => by simp at e; subst e; exact ⟨_, rfl, h⟩
  | _, _, i + 1, v, .cons _ t, e => by
    obtain ⟨d, h1, h2⟩ := DqAll.get (i := i) (v := v) t (by simpa using e)
    exact ⟨d, by simpa using h1, h2⟩
theorem DqAll.getD : ∀ {vs : List V} {ds : List Dt} {i : Nat} {d : Dt}, DqAll K F vs ds → ds[i]? = some d → ∃ v, vs[i]? = some v ∧ Dq K F v d
  | _, _, _, _, .nil, e => by simp at e
  | _, _, 0, _, .cons h _, e => by simp at e; subst e; exact ⟨_, rfl, h⟩
  | _, _, i + 1, v, .cons _ t, e => by
    obtain ⟨d, h1, h2⟩ := DqAll.getD (i := i) (d := v) t (by simpa using e)
    exact ⟨d, by simpa using h1, h2⟩
theorem DqAll.append : ∀ {vs : List V} {ds : List Dt}, DqAll K F vs ds → DqAll K F us es → DqAll K F (vs ++ us) (ds ++ es)
  | _, _, .nil, h => h
  | _, _, .cons h t, g => .cons h (DqAll.append t g)
theorem DqAll.one (h : Dq K F v d) : DqAll K F [v] [d] := .cons h .nil
theorem DqAll.take : ∀ {vs : List V} {ds : List Dt} (n : Nat), DqAll K F vs ds → DqAll K F (vs.take n) (ds.take n)
  | _, _, 0, _ => .nil
  | _, _, _ + 1, .nil => .nil
  | _, _, n + 1, .cons h t => .cons h (DqAll.take n t)
theorem DqAll.drop : ∀ {vs : List V} {ds : List Dt} (n : Nat), DqAll K F vs ds → DqAll K F (vs.drop n) (ds.drop n)
  | _, _, 0, h => h
  | _, _, _ + 1, .nil => .nil
  | _, _, n + 1, .cons _ t => DqAll.drop n t
theorem DqAll.set : ∀ {vs : List V} {ds : List Dt} (i : Nat), DqAll K F vs ds → Dq K F v d → DqAll K F (vs.set i v) (ds.set i d)
  | _, _, _, .nil, _ => .nil
  | _, _, 0, .cons _ t, g => .cons g t
  | _, _, i + 1, .cons h t, g => .cons h (DqAll.set i t g)
theorem DqAll.rep (h : DqAll K F vs ds) : ∀ k : Nat, DqAll K F (List.replicate k vs).flatten (List.replicate k ds).flatten
  | 0 => .nil
  | k + 1 => by
    rw [List.replicate_succ, List.replicate_succ, List.flatten_cons, List.flatten_cons]
    exact h.append (DqAll.rep h k)
end

/-! ### tables of code objects -/
/-- not a table -/
def NT (o : HO) : Prop := ∀ ps, o ≠ .tbl ps
theorem nt_lst {vs : List V} : NT (.lst vs) := fun _ z => nomatch z
theorem nt_ins {C dx : Addr} {fs : List (Str × V)} : NT (.ins C dx fs) := fun _ z => nomatch z
theorem nt_dK {vs : List (Key × V)} : NT (.dK vs) := fun _ z => nomatch z
theorem nt_tab {a : Addr} {xs : List (List Key × Addr × Value)} : NT (TabO a xs) := fun _ z => by
  unfold TabO at z
  cases z
def tabsOf (K : PySem.W.Frag) : List (Addr × Str) := (lamDefs K).map fun p => ((He.cT K p).2, p.1 ++ ".<locals>.<lambda>")
/-- a table: what it tells never changes -/
def TabF (F H : Hp) (P : Addr) (q : Str) : Prop := F P = none ∧ ∃ ps : Array Value, H P = some (.tbl ps) ∧ TriplesOk ps.toList ∧ ∀ (pos : Pos) (cv : Value), codeAmong pos ps.toList = some cv → ∃ c, cv = .ref c ∧ F c = some (LamX.CodeO c q)
def TabsF (T : List (Addr × Str)) (F H : Hp) : Prop := ∀ p ∈ T, TabF F H p.1 p.2
theorem TabF.grow {F H F' H' : Hp} {P : Addr} {q : Str} (t : TabF F H P q) (f : Same F F') (n : ∀ ps, H P = some (.tbl ps) → F P = none → F' P = none) (k : ∀ ps, H P = some (.tbl ps) → H' P = some (.tbl ps)) : TabF F' H' P q := by
  obtain ⟨h0, ps, h1, h2, h3⟩ := t
  refine ⟨n ps h1 h0, ps, k ps h1, h2, fun pos cv e => ?_⟩
  obtain ⟨c, e1, e2⟩ := h3 pos cv e
  exact ⟨c, e1, f _ _ e2⟩
theorem tbl_ne {H : Hp} {p P : Addr} {o : HO} {ps : Array Value} (hp : H p = some o) (ho : NT o) (e : H P = some (.tbl ps)) : P ≠ p := fun z => ho ps (by rw [z, hp] at e; exact Option.some.inj e)
theorem TabsF.ff {T : List (Addr × Str)} {F H : Hp} {p : Addr} {o u : HO} (t : TabsF T F H) (hF : F p = none) (hp : H p = some o) (ho : NT o) : TabsF T (upd F p u) H := fun p hp' => (t p hp').grow (fun b x e => by rw [upd_ne (ne_of_none e hF)]; exact e) (fun ps e n => by rw [upd_ne (tbl_ne hp ho e)]; exact n) fun _ e => e
theorem TabsF.newH {T : List (Addr × Str)} {F H : Hp} {p : Addr} {o : HO} (t : TabsF T F H) (h : H p = none) : TabsF T F (upd H p o) := fun x hx => (t x hx).grow (.refl _) (fun _ _ n => n) fun ps e => by
  rw [upd_ne (ne_of_none e h)]; exact e
theorem TabsF.new {T : List (Addr × Str)} {F H : Hp} {p : Addr} {u o : HO} (t : TabsF T F H) (hF : F p = none) (h : H p = none) : TabsF T (upd F p u) (upd H p o) := fun x hx => (t x hx).grow (fun b x e => by rw [upd_ne (ne_of_none e hF)]; exact e) (fun ps e n => by rw [upd_ne (ne_of_none e h)]; exact n) fun ps e => by
  rw [upd_ne (ne_of_none e h)]; exact e
theorem TabsF.mut {T : List (Addr × Str)} {F H : Hp} {p : Addr} {o o' : HO} (t : TabsF T F H) (hp : H p = some o) (ho : NT o) : TabsF T F (upd H p o') := fun x hx => (t x hx).grow (.refl _) (fun _ _ n => n) fun ps e => by
  rw [upd_ne (tbl_ne hp ho e)]; exact e
theorem nt_frz {o : Obj} {u : HO} : NT (.frz o u) := fun _ z => nomatch z
theorem frz_code {o : Obj} {u : HO} (c : Addr) (q : Str) : HO.frz o u ≠ LamX.CodeO c q := fun z => by unfold LamX.CodeO at z; cases z
/-! ### lambdas -/
/-- a lambda's words -/
structure LF where
  q : Str
  params : Arguments
  body : Expr
  scope : Scope
/-- the object at f is the lambda L, its code object at c -/
def LamO (f c : Addr) (L : LF) : HO := .ext fun h => ∃ pm ctv : Value, h.get? f = some (PySem.W.kla_obj "<lambda>" L.q L.params L.body L.scope [] pm c ctv)
/-- the lambda that a call's last argument is -/
def lamLast : List Expr → Option (Arguments × Expr × Scope)
  | [] => none
  | [.Lambda p b s _] => some (p, b, s)
  | _ :: es => lamLast es
def lamBody : List Stmt → Option (Arguments × Expr × Scope)
  | [] => none
  | .Return (some (.Call _ es _ _)) _ :: _ => lamLast es
  | _ :: sts => lamBody sts
/-- the lambda within the def x -/
def lamOf (K : PySem.W.Frag) (x : Str) : Option LF := match K.lookup (He.fAd K (x, none)) with
  | some o => match o.data with
    | .func fd => match fd.body with
      | .stmts b => (lamBody b).map fun p => ⟨x ++ ".<locals>.<lambda>", p.1, p.2.1, p.2.2⟩
      | _ => none
    | _ => none
  | none => none
/-! ### how heaps grow -/
structure Gr (K : PySem.W.Frag) (M : Addr → Prop) (F H F' H' : Hp) : Prop where
  ff : Same F F'
  fh : Same F' H'
  nw : ∀ a, F' a ≠ none → F a ≠ none ∨ H a = none
  kp : ∀ a o, H a = some o → ¬ M a → NT o → H' a = some o
  th : ∀ a, H a ≠ none → H' a ≠ none
  tb : TabsF (tabsOf K) F H → TabsF (tabsOf K) F' H'
abbrev Gr0 (K : PySem.W.Frag) : Hp → Hp → Hp → Hp → Prop := Gr K (fun _ => False)
section
variable {K : PySem.W.Frag} {M M' : Addr → Prop} {F H F1 H1 F2 H2 : Hp} {p : Addr} {o : HO}
theorem Gr.refl (h : Same F H) : Gr K M F H F H := ⟨.refl _, h, fun _ e => .inl e, fun _ _ e _ _ => e, fun _ e => e, fun t => t⟩
theorem Gr.trans (a : Gr K M F H F1 H1) (b : Gr K M F1 H1 F2 H2) : Gr K M F H F2 H2 where
  ff := a.ff.trans b.ff
  fh := b.fh
  nw := fun x e => by
    rcases b.nw x e with z | z
    · exact a.nw x z
    · exact .inr (Classical.byContradiction fun q => a.th x q z)
  kp := fun x u e n k => b.kp x u (a.kp x u e n k) n k
  th := fun x e => b.th x (a.th x e)
  tb := fun t => b.tb (a.tb t)
theorem Gr.mono (a : Gr K M F H F1 H1) (h : ∀ x, M x → M' x) : Gr K M' F H F1 H1 := ⟨a.ff, a.fh, a.nw, fun x u e n => a.kp x u e fun z => n (h x z), a.th, a.tb⟩
theorem Gr.any (a : Gr0 K F H F1 H1) : Gr K M F H F1 H1 := a.mono fun _ z => z.elim
theorem same_new (h : H p = none) : Same H (upd H p o) := fun b x e => by
  rw [upd_ne (ne_of_none e h)]
  exact e
theorem same_both (s : Same F H) : Same (upd F p o) (upd H p o) := fun b x e => by
  by_cases hb : b = p
  · subst hb; rw [upd_same] at e ⊢; exact e
  · rw [upd_ne hb] at e ⊢; exact s b x e
/-- a new object that never changes -/
theorem Gr.new (s : Same F H) (h : H p = none) : Gr K M F H (upd F p o) (upd H p o) where
  ff := same_new (s.free h)
  fh := same_both s
  nw := fun a e => by
    by_cases ha : a = p
    · subst ha; exact .inr h
    · rw [upd_ne ha] at e; exact .inl e
  kp := fun a u e _ _ => same_new h a u e
  th := fun a e => by
    by_cases ha : a = p
    · subst ha; rw [upd_same]; exact fun z => nomatch z
    · rw [upd_ne ha]; exact e
  tb := fun t => t.new (s.free h) h
/-- a new object that may change -/
theorem Gr.newH (s : Same F H) (h : H p = none) : Gr K M F H F (upd H p o) where
  ff := .refl _
  fh := s.trans (same_new h)
  nw := fun a e => .inl e
  kp := fun a u e _ _ => same_new h a u e
  th := fun a e => by
    by_cases ha : a = p
    · subst ha; rw [upd_same]; exact fun z => nomatch z
    · rw [upd_ne ha]; exact e
  tb := fun t => t.newH h
theorem same_mut (s : Same F H) (h : F p = none) : Same F (upd H p o) := fun b x e => by
  rw [upd_ne (ne_of_none e h)]
  exact s b x e
end

/-! ### the state of a def that runs -/
structure Gh where
  K : PySem.W.Frag
  T0 : Option Addr
  F0 : Hp
  H0 : Hp
  ext : List (Addr × HO)
  T : Option Addr
  fp : Nat → List Addr
def Gh.tm (G : Gh) : Addr → Prop := fun a => G.T0 = some a
def TwOk (K : PySem.W.Frag) (F H : Hp) : Option Addr → Tw → Prop
  | none, none => True
  | some t, some ws => ∃ tv, H t = some (.lst tv) ∧ F t = none ∧ DqAll K F tv ws
  | _, _ => False
/-- rows of own lists -/
inductive Rows (K : PySem.W.Frag) (F H : Hp) : List Addr → List (List Dt) → Prop
  | nil : Rows K F H [] []
  | cons {q : Addr} {qs : List Addr} {vs : List V} {r : List Dt} {rs : List (List Dt)} : H q = some (.lst vs) → DqAll K F vs r → Rows K F H qs rs → Rows K F H (q :: qs) (r :: rs)
/-- the entries of a dict whose keys are ints -/
inductive KvOk (K : PySem.W.Frag) (F : Hp) : List (Key × V) → List (Int × Dt) → Prop
  | nil : KvOk K F [] []
  | cons {k : Int} {v : V} {d : Dt} {vs : List (Key × V)} {ds : List (Int × Dt)} : Dq K F v d → KvOk K F vs ds → KvOk K F ((.inl k, v) :: vs) ((k, d) :: ds)
theorem KvOk.mono {K : PySem.W.Frag} {F F' : Hp} (e : Same F F') : ∀ {vs : List (Key × V)} {ds : List (Int × Dt)}, KvOk K F vs ds → KvOk K F' vs ds
  | _, _, .nil => .nil
  | _, _, .cons h t => .cons (h.mono e) (KvOk.mono e t)
/-- an exception of the class cls at a -/
def KxO (cls : Value) (a : Addr) : HO := .ext fun h => ∃ (oe : Obj) (vs : Array Value), h.get? a = some oe ∧ L2.Zc cls none oe ∧ oe.data = .fields vs
/-- a session's fields -/
def sesF (vL : V) (p q : Addr) : List (Str × V) := [("ladder", vL), ("done", .ref p), ("undone", .ref q)]
/-- a session at a, its lists at p and q: the ladder L, what is done, what is undone -/
def SesAt (K : PySem.W.Frag) (F H : Hp) (a p q : Addr) (L : Dt) (D U : List Dt) : Prop := ∃ dx vL vD vU, H a = some (.ins (He.ga K "Session") dx (sesF vL p q)) ∧ H p = some (.lst vD) ∧ H q = some (.lst vU) ∧ Dq K F vL L ∧ DqAll K F vD D ∧ DqAll K F vU U ∧ p ≠ q
def SlOk (K : PySem.W.Frag) (T : Option Addr) (F H : Hp) (v : V) (fp : List Addr) : SV → Prop
  | .d x => Dq K F v x
  | .own xs => ∃ p vs, v = .ref p ∧ fp = [p] ∧ H p = some (.lst vs) ∧ DqAll K F vs xs
  | .ow2 rows => ∃ p qs, v = .ref p ∧ fp = p :: qs ∧ H p = some (.lst (qs.map V.ref)) ∧ Rows K F H qs rows ∧ (p :: qs).Nodup
  | .dk kvs => ∃ p vs, v = .ref p ∧ fp = [p] ∧ H p = some (.dK vs) ∧ KvOk K F vs kvs
  | .fd kvs => ∃ p o vs, v = .ref p ∧ F p = some (.frz o (.dK vs)) ∧ KvOk K F vs kvs
  | .tb kvs => ∃ p xs, v = .ref p ∧ fp = [p] ∧ H p = some (TabO p xs) ∧ DqTab K F xs kvs
  | .fn x => ∃ f c L, v = .ref f ∧ lamOf K x = some L ∧ F f = some (LamO f c L) ∧ F c = some (LamX.CodeO c L.q)
  | .ex c => ∃ a, v = .ref a ∧ F a = some (KxO (.ref (He.ga K c)) a)
  | .se L D U => ∃ a p q, v = .ref a ∧ fp = [a, p, q] ∧ SesAt K F H a p q L D U
  | .town => ∃ t, T = some t ∧ v = .ref t
structure Rel (K : PySem.W.Frag) (G : Gh) (ρ : Sl) (W : Tw) (σ : L2.St) (F H : Hp) : Prop where
  gr : Gr K G.tm G.F0 G.H0 F H
  len : ρ.length = σ.length
  t0 : ∀ t, G.T0 = some t → G.T = some t
  t1 : ∀ t, G.T = some t → G.T0 = some t ∨ G.H0 t = none
  tw : TwOk K F H G.T W
  sl : ∀ (i : Nat) (sv : SV), ρ[i]? = some (some sv) → ∃ v, σ[i]? = some (some v) ∧ SlOk K G.T F H v (G.fp i) sv
  dj : ∀ (i j : Nat) (a : Addr), a ∈ G.fp i → a ∈ G.fp j → i = j
  fr : ∀ (i : Nat) (a : Addr), a ∈ G.fp i → F a = none ∧ H a ≠ none ∧ G.H0 a = none ∧ G.T ≠ some a
  ex : ∀ e ∈ G.ext, H e.1 = some e.2 ∧ F e.1 = none ∧ G.T ≠ some e.1 ∧ ∀ i, e.1 ∉ G.fp i
  xt : ∀ e ∈ G.ext, NT e.2
  tb : TabsF (tabsOf K) F H
  kk : G.K = K

section
variable {K : PySem.W.Frag} {G : Gh} {ρ : Sl} {W W' : Tw} {σ : L2.St} {F H F' H' : Hp}
theorem Rel.fh (R : Rel K G ρ W σ F H) : Same F H := R.gr.fh
theorem Rows.keep (e : Same F F') (k : ∀ a o, H a = some o → NT o → H' a = some o) : ∀ {qs : List Addr} {rs : List (List Dt)}, Rows K F H qs rs → Rows K F' H' qs rs
  | _, _, .nil => .nil
  | _, _, .cons h a t => .cons (k _ _ h nt_lst) (a.mono e) (Rows.keep e k t)
theorem SlOk.keep {T : Option Addr} {v : V} {fp : List Addr} {sv : SV} (e : Same F F') (k : ∀ a o, H a = some o → NT o → a ∈ fp → H' a = some o) (h : SlOk K T F H v fp sv) : SlOk K T F' H' v fp sv := by
  cases sv with
  | d x => exact Dq.mono h e
  | own xs =>
    obtain ⟨p, vs, rfl, rfl, hp, ha⟩ := h
    exact ⟨p, vs, rfl, rfl, k p _ hp nt_lst (by simp), ha.mono e⟩
  | ow2 rows =>
    obtain ⟨p, qs, rfl, rfl, hp, hr, nd⟩ := h
    refine ⟨p, qs, rfl, rfl, k p _ hp nt_lst (by simp), ?_, nd⟩
    have : ∀ {qs' : List Addr} {rs : List (List Dt)}, (∀ a ∈ qs', a ∈ qs) → Rows K F H qs' rs → Rows K F' H' qs' rs := by
      intro qs' rs hm r
      induction r with
      | nil => exact .nil
      | cons hq a t ih => exact .cons (k _ _ hq nt_lst (List.mem_cons_of_mem _ (hm _ (by simp)))) (a.mono e) (ih fun b hb => hm b (List.mem_cons_of_mem _ hb))
    exact this (fun _ z => z) hr
  | dk kvs =>
    obtain ⟨p, vs, rfl, rfl, hp, ha⟩ := h
    exact ⟨p, vs, rfl, rfl, k p _ hp nt_dK (by simp), ha.mono e⟩
  | fd kvs =>
    obtain ⟨p, o, vs, rfl, hp, ha⟩ := h
    exact ⟨p, o, vs, rfl, e _ _ hp, ha.mono e⟩
  | tb kvs =>
    obtain ⟨p, xs, rfl, rfl, hp, ha⟩ := h
    exact ⟨p, xs, rfl, rfl, k p _ hp nt_tab (by simp), dqTab_mono e _ _ ha⟩
  | fn x =>
    obtain ⟨f, c, L, h1, h2, h3, h4⟩ := h
    exact ⟨f, c, L, h1, h2, e _ _ h3, e _ _ h4⟩
  | ex c =>
    obtain ⟨a, h1, h2⟩ := h
    exact ⟨a, h1, e _ _ h2⟩
  | se L D U =>
    obtain ⟨a, p, q, rfl, rfl, dx, vL, vD, vU, h1, h2, h3, h4, h5, h6, h7⟩ := h
    exact ⟨a, p, q, rfl, rfl, dx, vL, vD, vU, k a _ h1 nt_ins (by simp), k p _ h2 nt_lst (by simp), k q _ h3 nt_lst (by simp), h4.mono e, h5.mono e, h6.mono e, h7⟩
  | town => exact h
/-- nothing that stood has changed -/
theorem Rel.grow (R : Rel K G ρ W σ F H) (g : Gr0 K F H F' H') : Rel K G ρ W σ F' H' where
  gr := R.gr.trans g.any
  len := R.len
  t0 := R.t0
  t1 := R.t1
  tw := by
    have h := R.tw
    revert h
    cases G.T <;> cases W <;> intro h
    · trivial
    · exact h
    · exact h
    · obtain ⟨tv, h1, h2, h3⟩ := h
      refine ⟨tv, g.kp _ _ h1 (fun z => z) nt_lst, ?_, h3.mono g.ff⟩
      exact Classical.byContradiction fun z => by
        rcases g.nw _ z with q | q
        · exact q h2
        · rw [h1] at q; cases q
  sl := fun i sv e => by
    obtain ⟨v, h1, h2⟩ := R.sl i sv e
    exact ⟨v, h1, h2.keep g.ff fun a o e n _ => g.kp a o e (fun z => z) n⟩
  dj := R.dj
  fr := fun i a ha => by
    obtain ⟨h1, h2, h3, h4⟩ := R.fr i a ha
    refine ⟨?_, g.th a h2, h3, h4⟩
    exact Classical.byContradiction fun z => by
      rcases g.nw _ z with q | q
      · exact q h1
      · exact h2 q
  ex := fun e he => by
    obtain ⟨h1, h2, h3⟩ := R.ex e he
    refine ⟨g.kp _ _ h1 (fun z => z) (R.xt e he), ?_, h3⟩
    exact Classical.byContradiction fun z => by
      rcases g.nw _ z with q | q
      · exact q h2
      · rw [h1] at q; cases q
  xt := R.xt
  tb := g.tb R.tb
  kk := R.kk
end

/-- an address that none of the state's changing things has -/
def Fresh (G : Gh) (p : Addr) : Prop := G.H0 p = none ∧ (∀ i, p ∉ G.fp i) ∧ G.T ≠ some p ∧ ∀ e ∈ G.ext, e.1 ≠ p
theorem Rel.fresh {K : PySem.W.Frag} {G : Gh} {ρ : Sl} {W : Tw} {σ : L2.St} {F H : Hp} (R : Rel K G ρ W σ F H) {p : Addr} (h : H p = none) : Fresh G p := by
  refine ⟨Classical.byContradiction fun z => R.gr.th p z h, fun i hi => (R.fr i p hi).2.1 h, fun e => ?_, fun e he z => ?_⟩
  · have t := R.tw
    rw [e] at t
    cases W with
    | none => exact t
    | some ws => obtain ⟨tv, h1, _⟩ := t; rw [h] at h1; cases h1
  · have := (R.ex e he).1
    rw [z, h] at this
    cases this
/-- a thing that may change is told to all: from now on it never changes -/
theorem Rel.freeze {K : PySem.W.Frag} {G : Gh} {ρ : Sl} {W : Tw} {σ : L2.St} {F H : Hp} (R : Rel K G ρ W σ F H) {p : Addr} {o : HO} (h : H p = some o) (hF : F p = none) (fr : Fresh G p) (nt : NT o := by exact nt_lst) : Rel K G ρ W σ (upd F p o) H := by
  obtain ⟨f1, f2, f3, f4⟩ := fr
  have sF : Same F (upd F p o) := same_new hF
  refine ⟨⟨R.gr.ff.trans sF, fun a u e => ?_, fun a e => ?_, R.gr.kp, R.gr.th, fun t => (R.gr.tb t).ff hF h nt⟩, R.len, R.t0, R.t1, ?_, fun i sv e => ?_, R.dj, fun i a ha => ?_, fun e he => ?_, R.xt, R.tb.ff hF h nt, R.kk⟩
  · by_cases ha : a = p
    · subst ha; rw [upd_same] at e; cases e; exact h
    · rw [upd_ne ha] at e; exact R.fh a u e
  · by_cases ha : a = p
    · subst ha; exact .inr f1
    · rw [upd_ne ha] at e; exact R.gr.nw a e
  · have t := R.tw
    revert t
    cases hT : G.T <;> cases W <;> intro t
    · trivial
    · exact t
    · exact t
    · obtain ⟨tv, h1, h2, h3⟩ := t
      exact ⟨tv, h1, by rw [upd_ne (fun z => f3 (by rw [hT, z]))]; exact h2, h3.mono sF⟩
  · obtain ⟨v, h1, h2⟩ := R.sl i sv e
    exact ⟨v, h1, h2.keep sF fun _ _ e _ _ => e⟩
  · obtain ⟨h1, h2⟩ := R.fr i a ha
    have hne : a ≠ p := fun z => f2 i (by rw [← z]; exact ha)
    exact ⟨by rw [upd_ne hne]; exact h1, h2⟩
  · obtain ⟨h1, h2, h3⟩ := R.ex e he
    exact ⟨h1, by rw [upd_ne (f4 e he)]; exact h2, h3⟩

/-! ### readings -/
def Pg {α : Type} (XE : Str → Hp → Prop) (G : Gh) (r : Res (α × Tw)) (P : α → Tw → Prop) : Prop :=
  match r with
  | .ok p => P p.1 p.2
  | .exc c => ∀ F' H', Gr G.K G.tm G.F0 G.H0 F' H' → XE c H'
  | .bad => False
section
variable {α β : Type} {XE : Str → Hp → Prop} {G : Gh}
theorem Pg.of_bind {r : Res (α × Tw)} {k : α × Tw → Res (β × Tw)} {P : β → Tw → Prop} (h : Pg XE G (r.bind k) P) : Pg XE G r fun a W' => Pg XE G (k (a, W')) P := by
  cases r with
  | ok p => exact h
  | exc c => exact h
  | bad => exact h
theorem Pg.mono {r : Res (α × Tw)} {P P' : α → Tw → Prop} (h : Pg XE G r P) (m : ∀ a W', P a W' → P' a W') : Pg XE G r P' := by
  cases r with
  | ok p => exact m _ _ h
  | exc c => exact h
  | bad => exact h
end
def ofO {α : Type} : Option α → Tw → Res (α × Tw)
  | some a, W => .ok (a, W)
  | none, _ => .bad
theorem Pg.of_ofO {α : Type} {XE : Str → Hp → Prop} {G : Gh} {o : Option α} {W : Tw} {P : α → Tw → Prop} (h : Pg XE G (ofO o W) P) : ∃ a, o = some a ∧ P a W := by
  cases o with
  | none => exact h.elim
  | some a => exact ⟨a, rfl, h⟩
/-- to be read: data, or an own list (its items are data) -/
def RB (K : PySem.W.Frag) (F H : Hp) (v : V) (d : Dt) : Prop := Dq K F v d ∨ ∃ p vs ds, v = .ref p ∧ d = .list ds ∧ H p = some (.lst vs) ∧ DqAll K F vs ds
def Stb (K : PySem.W.Frag) (G : Gh) (ρ : Sl) (σ : L2.St) (F : Hp) (v : V) (d : Dt) : Prop := ∀ F' H' W', Same F F' → Rel K G ρ W' σ F' H' → RB K F' H' v d
abbrev SE := Sl → Tw → Res (Dt × Tw)
abbrev SB := Sl → Tw → Res (Bool × Tw)
abbrev SA := Sl → Tw → Res (List Dt × Tw)
def tE (K : PySem.W.Frag) (XE : Str → Hp → Prop) (f : SE) : TE := fun σ H Q => ∃ G ρ W F, Rel K G ρ W σ F H ∧
  Pg XE G (f ρ W) fun d W' => ∀ v F' H', Same F F' → Rel K G ρ W' σ F' H' → Dq K F' v d → Q v H'
def tR (K : PySem.W.Frag) (XE : Str → Hp → Prop) (f : SE) : TE := fun σ H Q => ∃ G ρ W F, Rel K G ρ W σ F H ∧
  Pg XE G (f ρ W) fun d W' => ∀ v F' H', Same F F' → Rel K G ρ W' σ F' H' → Stb K G ρ σ F' v d → Q v H'
/-- a new list, not yet told to anyone -/
def tL (K : PySem.W.Frag) (XE : Str → Hp → Prop) (f : SA) : TE := fun σ H Q => ∃ G ρ W F, Rel K G ρ W σ F H ∧
  Pg XE G (f ρ W) fun ds W' => ∀ p vs F' H', Same F F' → Rel K G ρ W' σ F' H' → Fresh G p → H' p = some (.lst vs) → F' p = none → DqAll K F' vs ds → Q (.ref p) H'
def tT (K : PySem.W.Frag) (XE : Str → Hp → Prop) (f : SB) : TT := fun σ H Q => ∃ G ρ W F, Rel K G ρ W σ F H ∧
  Pg XE G (f ρ W) fun b W' => ∀ F' H', Same F F' → Rel K G ρ W' σ F' H' → Q b H'
def tA (K : PySem.W.Frag) (XE : Str → Hp → Prop) (f : SA) : TA := fun σ H Q => ∃ G ρ W F, Rel K G ρ W σ F H ∧
  Pg XE G (f ρ W) fun ds W' => ∀ vs F' H', Same F F' → Rel K G ρ W' σ F' H' → DqAll K F' vs ds → Q vs H'
end Sx
namespace L2
open PySem PySem.Spec PyProof.Rows Sx
section
variable {X : Cx} {e : Expr} {es : List Expr} {st : Stmt} {sts : List Stmt}
theorem PE.weak {t t' : TE} (h : PE X e t) (w : ∀ σ H Q, t' σ H Q → t σ H Q) : PE X e t' := ⟨fun pins s σ H Q I hq => h.run pins s σ H Q I (w σ H Q hq)⟩
theorem PT.weak {t t' : TT} (h : PT X e t) (w : ∀ σ H Q, t' σ H Q → t σ H Q) : PT X e t' := ⟨fun pins s σ H Q I hq => h.run pins s σ H Q I (w σ H Q hq)⟩
theorem PW.weak {t t' : TT} (h : PW X e t) (w : ∀ σ H Q, t' σ H Q → t σ H Q) : PW X e t' := ⟨fun wh pins s σ H Q I hq => h.run wh pins s σ H Q I (w σ H Q hq)⟩
theorem PA.weak {t t' : TA} (h : PA X es t) (w : ∀ σ H Q, t' σ H Q → t σ H Q) : PA X es t' := ⟨fun pos pins s σ H Q I hq => h.run pos pins s σ H Q I (w σ H Q hq)⟩
theorem PS.weak {t t' : TS} (h : PS X st t) (w : ∀ D σ H, t' D σ H → t D σ H) : PS X st t' := ⟨fun pins s σ H D I hq => h.run pins s σ H D I (w D σ H hq)⟩
theorem PSs.weak {t t' : TS} (h : PSs X sts t) (w : ∀ D σ H, t' D σ H → t D σ H) : PSs X sts t' := ⟨fun pins s σ H D I hq => h.run pins s σ H D I (w D σ H hq)⟩
end
end L2
namespace Sx
open PySem PySem.Spec PyProof.Rows L2
end Sx

namespace Sx
open PySem PySem.Spec PyProof.Rows L2

/-! ### what is read off a value -/
section
variable {K : PySem.W.Frag} {F H : Hp} {v : V}
theorem RB.int {i : Int} (h : RB K F H v (.int i)) : v = .int i := by
  rcases h with h | ⟨_, _, _, _, e, _⟩
  · cases h; rfl
  · cases e
theorem RB.bl {i : Bool} (h : RB K F H v (.bool i)) : v = .bl i := by
  rcases h with h | ⟨_, _, _, _, e, _⟩
  · cases h; rfl
  · cases e
theorem RB.str {i : Str} (h : RB K F H v (.str i)) : v = .str i := by
  rcases h with h | ⟨_, _, _, _, e, _⟩
  · cases h; rfl
  · cases e
theorem RB.non (h : RB K F H v .none) : v = .non := by
  rcases h with h | ⟨_, _, _, _, e, _⟩
  · cases h; rfl
  · cases e
theorem RB.tup {ds : List Dt} (h : RB K F H v (.tuple ds)) : ∃ a vs, v = .ref a ∧ SqT K F a vs ∧ DqAll K F vs ds := by
  rcases h with h | ⟨_, _, _, _, e, _⟩
  · cases h with
    | tup a b => exact ⟨_, _, rfl, a, b⟩
  · cases e
theorem RB.tupP {ds : List Dt} (h : RB K F H v (.tuple ds)) : ∃ a vs, v = .ref a ∧ SqT K F a vs ∧ DqAll K F vs ds ∧ PlT K F a vs := by
  rcases h with h | ⟨_, _, _, _, e, _⟩
  · cases h with
    | tup a b c => exact ⟨_, _, rfl, a, b, c⟩
  · cases e
theorem RB.lst {ds : List Dt} (h : RB K F H v (.list ds)) (s : Same F H) : ∃ a vs, v = .ref a ∧ SqL K H a vs ∧ DqAll K F vs ds := by
  rcases h with h | ⟨p, vs, ds', e1, e, hp, ha⟩
  · cases h with
    | lst a b => exact ⟨_, _, rfl, s.seq a, b⟩
  · cases e
    exact ⟨p, vs, e1, .inl (.inl hp), ha⟩
theorem RB.dp {d : Dt} (h : RB K F H v d) (s : Same F H) (c : SeqAt.shaped d = true) : Dp K H v d := by
  have c := SeqAt.canLay_of_shaped c
  rcases h with h | ⟨p, vs, ds', e1, e, hp, ha⟩
  · exact dq_dp s d v c h
  · subst e1 e
    exact .lst (.inl (.inl hp)) (dqAll_dp s _ _ (by simpa [PyData.canLay0] using c) ha)
end
/-- an operation over two values read as data -/
def RD2 (K : PySem.W.Frag) (g : Dt → Dt → Option Dt) : R2 := fun x y H Q => ∃ F d e z, Same F H ∧ RB K F H x d ∧ RB K F H y e ∧ g d e = some z ∧ ∀ v F' H', Gr0 K F H F' H' → Dq K F' v z → Q v H'
def RD1 (K : PySem.W.Frag) (g : Dt → Option Dt) : V → Hp → VK → Prop := fun x H Q => ∃ F d z, Same F H ∧ RB K F H x d ∧ g d = some z ∧ ∀ v F' H', Gr0 K F H F' H' → Dq K F' v z → Q v H'
inductive RBs (K : PySem.W.Frag) (F H : Hp) : List V → List Dt → Prop
  | nil : RBs K F H [] []
  | cons {v : V} {vs : List V} {d : Dt} {ds : List Dt} : RB K F H v d → RBs K F H vs ds → RBs K F H (v :: vs) (d :: ds)
/-- a call over values read as data -/
def RDC (K : PySem.W.Frag) (g : List Dt → Option Dt) : List V → Hp → VK → Prop := fun xs H Q => ∃ F ds z, Same F H ∧ RBs K F H xs ds ∧ g ds = some z ∧ ∀ v F' H', Gr0 K F H F' H' → Dq K F' v z → Q v H'
/-- .. that gives a new list -/
def RL2 (K : PySem.W.Frag) (g : Dt → Dt → Option (List Dt)) : R2 := fun x y H Q => ∃ F d e zs, Same F H ∧ RB K F H x d ∧ RB K F H y e ∧ g d e = some zs ∧ ∀ p vs, H p = none → DqAll K F vs zs → Q (.ref p) (upd H p (.lst vs))
def RLC (K : PySem.W.Frag) (g : List Dt → Option (List Dt)) : List V → Hp → VK → Prop := fun xs H Q => ∃ F ds zs, Same F H ∧ RBs K F H xs ds ∧ g ds = some zs ∧ ∀ p vs, H p = none → DqAll K F vs zs → Q (.ref p) (upd H p (.lst vs))
section
variable {K : PySem.W.Frag} {F H : Hp} {Q : VK}
/-- the ends: a value that stands by itself, a new tuple, a new list -/
theorem end_int {z : Dt} {i : Int} (s : Same F H) (e : z = .int i) (q : ∀ v F' H', Gr0 K F H F' H' → Dq K F' v z → Q v H') : Q (.int i) H := by subst e; exact q _ F H (.refl s) (.int i)
theorem end_bl {z : Dt} {i : Bool} (s : Same F H) (e : z = .bool i) (q : ∀ v F' H', Gr0 K F H F' H' → Dq K F' v z → Q v H') : Q (.bl i) H := by subst e; exact q _ F H (.refl s) (.bl i)
theorem end_str {z : Dt} {i : Str} (s : Same F H) (e : z = .str i) (q : ∀ v F' H', Gr0 K F H F' H' → Dq K F' v z → Q v H') : Q (.str i) H := by subst e; exact q _ F H (.refl s) (.str i)
theorem end_tup {z : Dt} {vs : List V} {ds : List Dt} {p : Addr} {o : Obj} (ho : o.dict = none) (s : Same F H) (e : z = .tuple ds) (ha : DqAll K F vs ds) (np : H p = none) (q : ∀ v F' H', Gr0 K F H F' H' → Dq K F' v z → Q v H') : Q (.ref p) (upd H p (.frz o (.tup vs))) := by
  subst e
  have g : Gr0 K F H (upd F p (.frz o (.tup vs))) (upd H p (.frz o (.tup vs))) := .new s np
  exact q _ _ _ g (.tup (.inl (.inr ⟨o, upd_same⟩)) (ha.mono g.ff) (.inl ⟨o, upd_same, ho⟩))
theorem end_lst {z : Dt} {vs : List V} {ds : List Dt} {p : Addr} (s : Same F H) (e : z = .list ds) (ha : DqAll K F vs ds) (np : H p = none) (q : ∀ v F' H', Gr0 K F H F' H' → Dq K F' v z → Q v H') : Q (.ref p) (upd H p (.lst vs)) := by
  subst e
  have g : Gr0 K F H (upd F p (.lst vs)) (upd H p (.lst vs)) := .new s np
  exact q _ _ _ g (.lst (.inl (.inl upd_same)) (ha.mono g.ff))
end
section
variable {X : Cx}
theorem slM {pins : List (Addr × Obj)} {σ : L2.St} {H : Hp} {s : Shared} {l : Addr} {xs : List V} (I : Inv X pins σ H s) (hH : SqL X.K H l xs) : xs.length ≤ sizeLine ∧ ∃ (its : List Value) (n : Nat) (sl : Array (Option Value)), Vals xs its ∧ xs.length = its.length ∧ s.heap.get? l = some { cls := .type "list", dict := none, data := .seq its.toArray n, slots := sl } := by
  obtain ⟨its, r, ⟨⟨cls, dd, data, sl⟩, n, e, hc, hd, hs⟩, z⟩ := I.list hH
  simp only at hc hd hs
  subst hc hd hs
  exact ⟨z, its, n, sl, r, r.length, e⟩
/-! lists: +, * -/
def rCatR (K : PySem.W.Frag) : R2 := fun x y H Q => ∃ l b xs zs, x = .ref l ∧ y = .ref b ∧ SqL K H l xs ∧ SqL K H b zs ∧ xs.length + zs.length ≤ sizeLine ∧ ∀ p, H p = none → Q (.ref p) (upd H p (.lst (xs ++ zs)))
theorem op_catR : OpR X (binaryOp .Add) (rCatR X.K) := by
  intro pins s σ H x y v u Q I rx ry h
  obtain ⟨l, b, xs, zs, rfl, rfl, hH, hB, hz, q⟩ := h
  cases rx
  cases ry
  obtain ⟨z, its, n, sl, r, hl, e⟩ := slM I hH
  obtain ⟨z2, its2, n2, sl2, r2, hl2, e2⟩ := slM I hB
  have ea : its.toArray ++ its2.toArray = (its ++ its2).toArray := by simp
  refine concat_meets ⟨_, e, rfl⟩ ⟨_, e2, rfl⟩ noFill_list_add seq_list_add PySem.F.slot_list_add PySem.F.entry_list_add (PySem.F.args_list_add_2 _ _) (list_addW l b its.toArray its2.toArray n n2 none none sl sl2 (by rw [List.size_toArray, List.size_toArray]; omega)) ⟨e, e2, ?_⟩
  rw [ea]
  exact ⟨.ref _, _, I.lnew (t' := s.toks) (r.append r2) (by rw [List.length_append]; omega), rfl, q _ I.fresh⟩
theorem int_rmul_listW (a : Int) (t : Tok) (l : Addr) (items : Array Value) (n : Nat) (dd : Option Addr) (sl : Array (Option Value)) :
    Meets (Builtin.«int.__rmul__» ⟨[.int a t, .ref l], []⟩) (fun _ R s => s.heap.get? l = some { cls := .type "list", dict := dd, data := .seq items n, slots := sl } ∧ R (.ok (.ret Value.notImplemented)) s) :=
  .of_wp fun prog w A R s h => by obtain ⟨hp, g, d, tk, os⟩ := s; obtain ⟨hl, h⟩ := h; wp_walk using wpAny_loadPart' hl; exact ⟨_, rfl, h⟩
theorem list_mulW (l : Addr) (items : Array Value) (n : Nat) (dd : Option Addr) (sl : Array (Option Value)) (x : Int) (u : Tok) (hc0 : ¬(!Builtin.List.listFitsIndex x) = true) (hc1 : ¬items.size * x.toNat > (2 ^ 63 - 1) / 8) (hc2 : ¬Builtin.List.listTooLong (items.size * x.toNat) = true) :
    Meets (Builtin.«list.__mul__» ⟨[.ref l, .int x u], []⟩) (fun _ R s => s.heap.get? l = some { cls := .type "list", dict := dd, data := .seq items n, slots := sl } ∧ R (.ok (.ret (Value.ref s.heap.objs.size))) { s with heap := s.heap.push { cls := Value.type "list", data := Data.seq (List.foldl (fun x1 x2 => x1 ++ x2) #[] (List.replicate (if items.isEmpty = true then 0 else x.toNat) items)) }, toks := s.toks }) :=
  .of_wp fun prog w A R s h => by
    obtain ⟨hp, g, d, tk, os⟩ := s; obtain ⟨hl, h⟩ := h
    have hsz := AutoListH.joined_fits hc2
    have f1 := AutoSeq1.idx_int
    wp_walk using wpAny_loadPart' hl
    refine wpAny_ite_false (decide_eq_false (Nat.not_lt.mpr hsz)) ?_
    wp_walk using wpAny_loadPart' hl
    exact ⟨_, rfl, h⟩
def rRepR (K : PySem.W.Frag) : R2 := fun x y H Q => ∃ l k xs, x = .ref l ∧ y = .int k ∧ SqL K H l xs ∧ -(2 ^ 63) ≤ k ∧ k < 2 ^ 63 ∧ xs.length * k.toNat ≤ sizeLine ∧
  ∀ p, H p = none → Q (.ref p) (upd H p (.lst (List.replicate k.toNat xs).flatten))
theorem op_repR : OpR X (binaryOp .Mult) (rRepR X.K) := by
  intro pins s σ H x y v u Q I rx ry h
  obtain ⟨l, k, xs, rfl, rfl, hH, h1, h2, hz, q⟩ := h
  cases rx
  obtain ⟨t, rfl⟩ := ry
  obtain ⟨z, its, n, sl, r, hl, e⟩ := slM I hH
  have hlen : its.toArray.size * k.toNat ≤ sizeLine := by rw [List.size_toArray, ← hl]; exact hz
  have hcap : ¬ its.toArray.size * k.toNat > (2 ^ 63 - 1) / 8 := by
    have : (sizeLine : Nat) ≤ (2 ^ 63 - 1) / 8 := by decide
    omega
  have hfit : ¬ (!Builtin.List.listFitsIndex k) = true := by
    rw [fitsIndex_both h1 h2]
    exact Bool.false_ne_true
  have hlong : ¬ Builtin.List.listTooLong (its.toArray.size * k.toNat) = true := by
    rw [notLongL hlen]
    exact Bool.false_ne_true
  have hnew : List.foldl (fun x1 x2 => x1 ++ x2) #[] (List.replicate (if its.toArray.isEmpty = true then 0 else k.toNat) its.toArray) = (List.replicate k.toNat its).flatten.toArray := by
    have f0 : ∀ m : Nat, List.foldl (fun x1 x2 => x1 ++ x2) #[] (List.replicate m its.toArray) = (List.replicate m its).flatten.toArray := fun m => by
      have := foldl_rep its m []
      rw [List.nil_append] at this
      exact this
    rw [f0]
    cases its with
    | nil => simp
    | cons a r' => rw [if_neg (by simp)]
  refine wpAny_binaryOp_repeat_ref (T := "list") (U := "int") (by decide) ⟨_, e, rfl⟩ (fun s' => typeIs_int s' k t) noFill_list_mul F.fills_int_mul F.slot_int_rmul repeat_list F.slot_int_index.lookup
    (call_meets F.slot_int_rmul (typeIs_int s k t) F.entry_int_rmul (F.args_int_rmul_2 _ _) (int_rmul_listW k t l its.toArray n none sl)
      ⟨e, rfl, ⟨_, e, rfl⟩, call_meets F.slot_list_mul ⟨_, e, rfl⟩ F.entry_list_mul (F.args_list_mul_2 _ _) (list_mulW l its.toArray n none sl k t hfit hcap hlong) ⟨e, ?_⟩⟩)
  rw [hnew]
  exact ⟨.ref _, _, I.lnew (t' := s.toks) (r.rep k.toNat) (by rw [PyProof.Rows.lm_len_rep_flat, Nat.mul_comm]; exact hz), rfl, q _ I.fresh⟩
/-- a tuple times 1 is itself -/
theorem tuple_mul1 (l : Addr) (items : Array Value) (n : Nat) (dd : Option Addr) (sl : Array (Option Value)) (u : Tok) :
    Meets (Builtin.«tuple.__mul__» ⟨[.ref l, .int 1 u], []⟩) (fun _ R s => s.heap.get? l = some { cls := .type "tuple", dict := dd, data := .seq items n, slots := sl } ∧ R (.ok (.ret (Value.ref l))) s) :=
  .of_wp fun prog w A R s h => by
    obtain ⟨hp, g, d, tk, os⟩ := s
    obtain ⟨hl, h⟩ := h
    have f1 := AutoSeq1.idx_int
    have c1 : (items.isEmpty || (1 : Int) == 1) = true := by simp
    wp_walk using wpAny_loadPart' hl
    repeat (first
      | (refine wpAny_ite_false (by decide) ?_; wp_walk using wpAny_loadPart' hl)
      | (refine wpAny_ite_true (by simp) ?_; wp_walk using wpAny_loadPart' hl))
    exact ⟨_, rfl, h⟩
end
/-! ### new tuples: their objects are known -/
section
variable {X : Cx}
abbrev tupO (its : List Value) : Obj := { cls := .type "tuple", data := .seq its.toArray }
theorem tup_laid {pins : List (Addr × Obj)} {σ : L2.St} {H : Hp} {s : Shared} {xs : List V} {its : List Value} {h' : Heap} {t' : Nat} (I : Inv X pins σ H { s with heap := h' }) (r : Vals xs its) (hz : xs.length ≤ sizeLine) :
    Inv X pins σ (upd H h'.objs.size (.frz (tupO its) (.tup xs))) { s with heap := h'.push (tupO its), toks := t' } :=
  I.laid (t' := t') (o := .frz (tupO its) (.tup xs)) (fun b o e => Heap.get?_push_of_some _ e) (Nat.le_refl _) ⟨Heap.get?_push_size _ rfl, hz, its, r, IsTup.new _ _⟩
def rCatP (K : PySem.W.Frag) : R2 := fun x y H Q => ∃ a b xs ys, x = .ref a ∧ y = .ref b ∧ SqT K H a xs ∧ SqT K H b ys ∧ xs.length + ys.length ≤ sizeLine ∧
  (xs = [] → Q (.ref b) H) ∧ (xs ≠ [] → ys = [] → Q (.ref a) H) ∧ (xs ≠ [] → ys ≠ [] → ∀ p o, H p = none → o.dict = none → Q (.ref p) (upd H p (.frz o (.tup (xs ++ ys)))))
theorem op_catP : OpR X (binaryOp .Add) (rCatP X.K) := by
  intro pins s σ H x y v u Q I rx ry h
  obtain ⟨a, b, xs, ys, rfl, rfl, ha, hb, hz, q0, q1, q2⟩ := h
  cases rx
  cases ry
  obtain ⟨its, r1, p1, _⟩ := I.tuple ha
  obtain ⟨its2, r2, p2, _⟩ := I.tuple hb
  by_cases hx : xs = []
  · subst hx
    cases r1
    exact cat_tup0 p1 p2 ⟨.ref b, H, I, rfl, q0 rfl⟩
  · refine HT.cat_tup p1 p2 (fun z => hx (r1.nil_iff.mp z)) (fun z => ⟨.ref a, H, I, rfl, q1 hx (r2.nil_iff.mp z)⟩) (fun z => ?_) (by rw [← r1.length, ← r2.length]; exact hz)
    exact ⟨.ref s.heap.objs.size, _, tup_laid (t' := s.toks) I (r1.append r2) (by rw [List.length_append]; exact hz), rfl, q2 hx (fun w => z (r2.nil_iff.mpr w)) _ _ (I.hok.fresh (Nat.le_refl _)) rfl⟩
theorem call_tupP : CallR X (.type "tuple") (fun xs H Q => ∃ p ys, xs = [.ref p] ∧ ((SqL X.K H p ys ∧ ∀ l o, H l = none → o.dict = none → Q (.ref l) (upd H l (.frz o (.tup ys)))) ∨ (SqT X.K H p ys ∧ Q (.ref p) H))) := by
  intro pins s σ H xs us Q I r h
  obtain ⟨p, ys, rfl, h⟩ := h
  obtain ⟨u, rfl, rx⟩ := vals1 r
  cases rx
  rcases h with ⟨hq, q⟩ | ⟨hq, q⟩
  · obtain ⟨its, r', pl, hz⟩ := I.list hq
    have hlen := r'.length
    refine call_tuple_list pl.isList (fun h' kp => ?_) (by simp only [List.size_toArray] <;> omega)
    have I1 : Inv X pins σ H { s with heap := h' } := I.kept (t' := s.toks) kp
    exact ⟨.ref h'.objs.size, _, tup_laid (t' := s.toks) I1 r' hz, rfl, q _ _ (I1.hok.fresh (Nat.le_refl _)) rfl⟩
  · obtain ⟨its, r', pl, hz⟩ := I.tuple hq
    exact call_tuple_same pl ⟨.ref p, H, I, rfl, q⟩
def rSlP (K : PySem.W.Frag) : V → Option Int → Option Int → Hp → VK → Prop := fun x lo hi H Q => ∃ a xs, x = .ref a ∧ SqT K H a xs ∧
  (HT.sIx xs.length 0 lo = 0 ∧ HT.sIx xs.length xs.length hi = xs.length → Q (.ref a) H) ∧ (¬ (HT.sIx xs.length 0 lo = 0 ∧ HT.sIx xs.length xs.length hi = xs.length) → ∀ p o, H p = none → o.dict = none → Q (.ref p) (upd H p (.frz o (.tup (cutV xs lo hi)))))
theorem sl_tupP : SlR X (rSlP X.K) := by
  intro pins s σ H x v vl vu lo hi sl Q I rx hs pl pu h
  obtain ⟨a, xs, rfl, hx, q1, q2⟩ := h
  by_cases hw : HT.sIx xs.length 0 lo = 0 ∧ HT.sIx xs.length xs.length hi = xs.length
  · exact sl_tupA pins s σ H _ v vl vu lo hi sl Q I rx hs pl pu ⟨a, xs, rfl, hx, q1, fun z => absurd hw z⟩
  · cases rx
    obtain ⟨its, r, ht, hz⟩ := I.tuple hx
    have hlen : its.toArray.size = xs.length := by rw [List.size_toArray]; exact r.length.symm
    refine ⟨"tuple", _, PyProof.Rows.slot_tuple_getitem.lookup, ht.typeIs, ?_⟩
    refine HT.getItem_tuple_cut ht hs pl pu (by rw [hlen]; exact hw) ?_ (by rw [hlen]; exact hz)
    rw [hlen]
    exact ⟨.ref s.heap.objs.size, _, tup_laid (t' := s.toks) I ((r.drop (HT.sIx xs.length 0 lo)).take (HT.sIx xs.length xs.length hi - HT.sIx xs.length 0 lo)) (Nat.le_trans (cutV_length xs lo hi) hz), rfl, q2 hw _ _ (I.hok.fresh (Nat.le_refl _)) rfl⟩
def rRepP (K : PySem.W.Frag) : R2 := fun x y H Q => ∃ l k xs, x = .ref l ∧ y = .int k ∧ SqT K H l xs ∧ xs ≠ [] ∧ 2 ≤ k ∧ k ≤ 1000 ∧ xs.length ≤ 1000 ∧ ∀ p o, H p = none → o.dict = none → Q (.ref p) (upd H p (.frz o (.tup (List.replicate k.toNat xs).flatten)))
theorem op_repP : OpR X (binaryOp .Mult) (rRepP X.K) := by
  intro pins s σ H x y v u Q I rx ry h
  obtain ⟨l, k, xs, rfl, rfl, hT, hne, h1, h2, hz, q⟩ := h
  cases rx
  obtain ⟨t, rfl⟩ := ry
  obtain ⟨its, r, ⟨⟨cls, dd, data, sl⟩, ho, hc, n, hd⟩, hs⟩ := I.tuple hT
  simp only at hc hd
  subst hc hd
  have hle : its.length = xs.length := r.length.symm
  have hi : its.toArray.isEmpty = false := by
    cases its with
    | nil => exact absurd (List.eq_nil_of_length_eq_zero hle.symm) hne
    | cons a b => rfl
  have hsz0 : its.toArray.size = xs.length := by rw [List.size_toArray, hle]
  have hm : ((its.toArray.size : Nat) : Int) * k ≤ 1000000 := by
    rw [hsz0]
    have a1 : ((xs.length : Nat) : Int) * k ≤ 1000 * k := Int.mul_le_mul_of_nonneg_right (by omega) (by omega)
    omega
  have flen : (List.replicate k.toNat its).flatten.length ≤ sizeLine := by
    rw [PyProof.Rows.lm_len_rep_flat, hle, sizeLine_eq]
    have a1 : k.toNat * xs.length ≤ 1000 * 1000 := Nat.mul_le_mul (by omega) hz
    omega
  have c0 : (decide (k < -(2 ^ 63)) || decide (k ≥ 2 ^ 63)) = false := by
    rw [decide_eq_false (by omega), decide_eq_false (by omega)] <;> rfl
  have c1 : (its.toArray.isEmpty || k == 1) = false := by
    rw [hi, Bool.false_or]
    exact beq_eq_false_iff_ne.mpr (by omega)
  have c2 : (decide (k ≤ 0) || its.toArray.isEmpty) = false := by
    rw [hi, Bool.or_false]
    exact decide_eq_false (by omega)
  have c4 : Builtin.Tuple.tupleTooMany (((its.toArray.size : Nat) : Int) * k) = false := by
    unfold Builtin.Tuple.tupleTooMany
    rw [sizeLine_eq]
    exact decide_eq_false (by omega)
  refine wpAny_binaryOp_repeat_ref (T := "tuple") (U := "int") (by decide) ⟨_, ho, rfl⟩ (fun s' => typeIs_int s' k t) noFill_tuple_mul PySem.F.fills_int_mul PySem.F.slot_int_rmul repeat_tuple PySem.F.slot_int_index.lookup
    (call_meets PySem.F.slot_int_rmul (typeIs_int s k t) PySem.F.entry_int_rmul (PySem.F.args_int_rmul_2 _ _) (int_rmul_tuple k t l its.toArray n dd sl)
      ⟨ho, rfl, ⟨_, ho, rfl⟩, call_meets PySem.F.slot_tuple_mul ⟨_, ho, rfl⟩ PySem.F.entry_tuple_mul (PySem.F.args_tuple_mul_2 _ _) (tuple_mulW l its.toArray n dd sl k t c0 c1 c2 (by omega) c4 (by rw [size_rep, List.size_toArray]; exact flen)) ⟨ho, ?_⟩⟩)
  rw [size_rep]
  exact ⟨.ref s.heap.objs.size, _, tup_laid (t' := s.toks) I (r.rep k.toNat) (by rw [PyProof.Rows.lm_len_rep_flat, sizeLine_eq]; have a1 : k.toNat * xs.length ≤ 1000 * 1000 := Nat.mul_le_mul (by omega) hz; omega), rfl, q _ _ (I.hok.fresh (Nat.le_refl _)) rfl⟩
def tTupP (t : TA) : TE := fun σ H Q => t σ H fun xs H1 => xs.length ≤ sizeLine ∧ ∀ p o, H1 p = none → o.dict = none → Q (.ref p) (upd H1 p (.frz o (.tup xs)))
theorem pe_tupP {es : List Expr} {t : TA} {pos : Pos} {x1} (h : PA X es t) : PE X (.Tuple es x1 pos) (tTupP t) := by
  refine ⟨fun pins s σ H Q I hq => ?_⟩
  refine wpAny_Tuple_spliced (thn (h.run pos pins s σ H _ I hq) fun us s1 ⟨xs, H1, I1, r, z, q⟩ => ⟨by rw [← r.length]; exact z, ?_⟩)
  exact ⟨.ref s1.heap.objs.size, _, tup_laid (t' := s1.toks) I1 r z, rfl, q _ _ (I1.hok.fresh (Nat.le_refl _)) rfl⟩
end
end Sx

namespace Sx
open PySem PySem.Spec PyProof.Rows L2

/-! ### operations over data -/
def mulOk (i j : Int) : Bool := decide (i.natAbs.log2 + j.natAbs.log2 < 1000000)
def addD : Dt → Dt → Option Dt
  | .int a, .int b => some (.int (a + b))
  | .str a, .str b => if a.length + b.length ≤ 100000 then some (.str (a ++ b)) else none
  | .tuple a, .tuple b => if a.length + b.length ≤ 100000 then some (.tuple (a ++ b)) else none
  | .list a, .list b => if a.length + b.length ≤ 100000 then some (.list (a ++ b)) else none
  | _, _ => none
def subD : Dt → Dt → Option Dt
  | .int a, .int b => some (.int (a - b))
  | _, _ => none
def mulD : Dt → Dt → Option Dt
  | .int a, .int b => if mulOk a b then some (.int (a * b)) else none
  | .list a, .int k => if k ≤ 1000 ∧ -1000 ≤ k ∧ a.length ≤ 1000 then some (.list (List.replicate k.toNat a).flatten) else none
  | .tuple a, .int k => if 1 ≤ k ∧ k ≤ 1000 ∧ a.length ≤ 1000 ∧ a ≠ [] then some (.tuple (List.replicate k.toNat a).flatten) else none
  | _, _ => none
def fdivD : Dt → Dt → Option Dt
  | .int a, .int b => if 0 < b ∧ b.natAbs.log2 < 9000 then some (.int (a / b)) else none
  | _, _ => none
def modD : Dt → Dt → Option Dt
  | .int a, .int b => if 0 < b then some (.int (a % b)) else none
  | _, _ => none
def powD : Dt → Dt → Option Dt
  | .int a, .int b => if 0 ≤ b ∧ b ≤ 1000000 ∧ a.natAbs < 2 ^ 64 then some (.int (a ^ b.toNat)) else none
  | _, _ => none
def eqD (d e : Dt) : Option Dt := if SeqAt.shaped d && SeqAt.shaped e then some (.bool (PyData.eqv d e)) else none
def neD (d e : Dt) : Option Dt := if SeqAt.shaped d && SeqAt.shaped e then some (.bool (!PyData.eqv d e)) else none
def cmpD (p : Int → Int → Bool) : Dt → Dt → Option Dt
  | .int a, .int b => some (.bool (p a b))
  | _, _ => none
abbrev ltD := cmpD fun a b => decide (a < b)
abbrev leD := cmpD fun a b => decide (a ≤ b)
abbrev gtD := cmpD fun a b => decide (b < a)
abbrev geD := cmpD fun a b => decide (b ≤ a)
def flatD : Dt → Bool
  | .none => true
  | .bool _ => true
  | .int _ => true
  | .str _ => true
  | _ => false
/-- is x one of the items -/
def inB (x : Dt) (ds : List Dt) : Bool := ds.any fun z => PyData.eqv z x
def inD' (neg : Bool) : Dt → Dt → Option Dt
  | x, .list ds => if SeqAt.shaped x && SeqAt.shaped (.list ds) then some (.bool (if neg then !inB x ds else inB x ds)) else none
  | x, .tuple ds => if flatD x && ds.all flatD then some (.bool (if neg then !inB x ds else inB x ds)) else none
  | _, _ => none
abbrev inD := inD' false
abbrev notInD := inD' true
def isNone : Dt → Bool
  | .none => true
  | _ => false
/-- is None; is True, is False -/
def isD' (neg : Bool) : Dt → Dt → Option Dt
  | x, .none => some (.bool (if neg then !isNone x else isNone x))
  | .bool a, .bool b => some (.bool (if neg then !(a == b) else a == b))
  | _, _ => none
abbrev isD := isD' false
abbrev isNotD := isD' true
def atD (ds : List Dt) (i : Int) : Option Dt := atI ds i
def ixD : Dt → Dt → Option Dt
  | .tuple ds, .int i => atD ds i
  | .list ds, .int i => atD ds i
  | .str z, .int i => if z.length ≤ 100000 then (atI z.cps.toList i).map fun c => .str ⟨#[c]⟩ else none
  | _, _ => none
def negD : Dt → Option Dt
  | .int a => some (.int (-a))
  | _ => none

section
variable {X : Cx}
theorem sz5 {n : Nat} (h : n ≤ 100000) : n ≤ sizeLine := Nat.le_trans h (by decide)
theorem sz6 {n : Nat} (h : n ≤ 1000000) : n ≤ sizeLine := Nat.le_trans h (by decide)
theorem DqAll.nil_iff {K : PySem.W.Frag} {F : Hp} {vs : List V} {ds : List Dt} (h : DqAll K F vs ds) : vs = [] ↔ ds = [] := by
  cases h <;> simp
theorem op_addD : OpR X (binaryOp .Add) (RD2 X.K addD) := by
  intro pins s σ H x y v u Q I rx ry h
  obtain ⟨F, d, e, z, sm, hx, hy, hg, q⟩ := h
  cases d <;> cases e <;> simp only [addD] at hg <;> try (cases hg; done)
  · obtain rfl := hx.int
    obtain rfl := hy.int
    cases hg
    exact op_add pins s σ H _ _ v u Q I rx ry ⟨_, _, rfl, rfl, end_int sm rfl q⟩
  · obtain rfl := hx.str
    obtain rfl := hy.str
    split at hg
    · cases hg
      rename_i hl
      exact op_add_str pins s σ H _ _ v u Q I rx ry ⟨_, _, rfl, rfl, sz5 hl, end_str sm rfl q⟩
    · cases hg
  · obtain ⟨a, xs, rfl, ha, da⟩ := hx.lst sm
    obtain ⟨b, ys, rfl, hb, db⟩ := hy.lst sm
    split at hg
    · cases hg
      rename_i hl
      exact op_catR pins s σ H _ _ v u Q I rx ry ⟨a, b, xs, ys, rfl, rfl, ha, hb, sz5 (by rw [da.length, db.length]; exact hl), fun p np => end_lst sm rfl (da.append db) np q⟩
    · cases hg
  · obtain ⟨a, xs, rfl, ha, da, pa⟩ := hx.tupP
    obtain ⟨b, ys, rfl, hb, db, pb⟩ := hy.tupP
    split at hg
    · cases hg
      rename_i hl
      refine op_catP pins s σ H _ _ v u Q I rx ry ⟨a, b, xs, ys, rfl, rfl, sqT_mono sm ha, sqT_mono sm hb, sz5 (by rw [da.length, db.length]; exact hl), fun e => ?_, fun _ e => ?_, fun _ _ p o np ho => end_tup ho sm rfl (da.append db) np q⟩
      · rw [da.nil_iff] at e
        subst e
        exact q _ F H (.refl sm) (.tup hb db pb)
      · rw [db.nil_iff] at e
        subst e
        rw [List.append_nil] at q
        exact q _ F H (.refl sm) (.tup ha da pa)
    · cases hg
theorem op_subD : OpR X (binaryOp .Sub) (RD2 X.K subD) := by
  intro pins s σ H x y v u Q I rx ry h
  obtain ⟨F, d, e, z, sm, hx, hy, hg, q⟩ := h
  cases d <;> cases e <;> simp only [subD] at hg <;> try (cases hg; done)
  obtain rfl := hx.int
  obtain rfl := hy.int
  cases hg
  exact op_sub pins s σ H _ _ v u Q I rx ry ⟨_, _, rfl, rfl, end_int sm rfl q⟩
theorem mulOk_iff {i j : Int} (h : mulOk i j = true) : CMulW i j := by
  unfold mulOk at h
  have h := of_decide_eq_true h
  exact h
theorem rep1 {α : Type} (xs : List α) : (List.replicate (1 : Int).toNat xs).flatten = xs := by simp
theorem op_mulD : OpR X (binaryOp .Mult) (RD2 X.K mulD) := by
  intro pins s σ H x y v u Q I rx ry h
  obtain ⟨F, d, e, z, sm, hx, hy, hg, q⟩ := h
  cases d <;> cases e <;> simp only [mulD] at hg <;> try (cases hg; done)
  · obtain rfl := hx.int
    obtain rfl := hy.int
    split at hg
    · cases hg
      rename_i hl
      exact op_mulW pins s σ H _ _ v u Q I rx ry ⟨_, _, rfl, rfl, (mulOk_iff hl), end_int sm rfl q⟩
    · cases hg
  · obtain ⟨a, xs, rfl, ha, da⟩ := hx.lst sm
    obtain rfl := hy.int
    split at hg
    · cases hg
      rename_i k hl
      refine op_repR pins s σ H _ _ v u Q I rx ry ⟨a, k, xs, rfl, rfl, ha, by omega, by omega, ?_, fun p np => end_lst sm rfl (da.rep _) np q⟩
      rw [da.length]
      exact sz6 (Nat.le_trans (Nat.mul_le_mul hl.2.2 (show k.toNat ≤ 1000 by omega)) (by decide))
    · cases hg
  · obtain ⟨a, xs, rfl, ha, da, pa⟩ := hx.tupP
    obtain rfl := hy.int
    split at hg
    · cases hg
      rename_i k hl
      obtain ⟨h1, h2, h3, h4⟩ := hl
      by_cases hk : k = 1
      · subst hk
        rw [rep1] at q
        cases rx
        obtain ⟨t, rfl⟩ := ry
        obtain ⟨its, r, ⟨⟨cls, dd, data, sl⟩, ho, hc, n, hd⟩, hs⟩ := I.tuple (sqT_mono sm ha)
        simp only at hc hd
        subst hc hd
        refine wpAny_binaryOp_repeat_ref (T := "tuple") (U := "int") (by decide) ⟨_, ho, rfl⟩ (fun s' => typeIs_int s' 1 t) noFill_tuple_mul PySem.F.fills_int_mul PySem.F.slot_int_rmul repeat_tuple PySem.F.slot_int_index.lookup
          (call_meets PySem.F.slot_int_rmul (typeIs_int s 1 t) PySem.F.entry_int_rmul (PySem.F.args_int_rmul_2 _ _) (int_rmul_tuple 1 t a its.toArray n dd sl)
            ⟨ho, rfl, ⟨_, ho, rfl⟩, call_meets PySem.F.slot_tuple_mul ⟨_, ho, rfl⟩ PySem.F.entry_tuple_mul (PySem.F.args_tuple_mul_2 _ _) (tuple_mul1 a its.toArray n dd sl t) ⟨ho, ?_⟩⟩)
        exact ⟨.ref a, H, I, rfl, q _ F H (.refl sm) (.tup ha da pa)⟩
      · exact op_repP pins s σ H _ _ v u Q I rx ry ⟨a, k, xs, rfl, rfl, sqT_mono sm ha, fun e => h4 (da.nil_iff.mp e), by omega, h2, by rw [da.length]; exact h3, fun p o np ho => end_tup ho sm rfl (da.rep _) np q⟩
    · cases hg
theorem op_fdivD : OpR X (binaryOp .FloorDiv) (RD2 X.K fdivD) := by
  intro pins s σ H x y v u Q I rx ry h
  obtain ⟨F, d, e, z, sm, hx, hy, hg, q⟩ := h
  cases d <;> cases e <;> simp only [fdivD] at hg <;> try (cases hg; done)
  obtain rfl := hx.int
  obtain rfl := hy.int
  split at hg
  · cases hg
    rename_i hl
    exact op_fdivW pins s σ H _ _ v u Q I rx ry ⟨_, _, rfl, rfl, hl, end_int sm rfl q⟩
  · cases hg
theorem op_modD : OpR X (binaryOp .Mod) (RD2 X.K modD) := by
  intro pins s σ H x y v u Q I rx ry h
  obtain ⟨F, d, e, z, sm, hx, hy, hg, q⟩ := h
  cases d <;> cases e <;> simp only [modD] at hg <;> try (cases hg; done)
  obtain rfl := hx.int
  obtain rfl := hy.int
  split at hg
  · cases hg
    rename_i hl
    exact op_mod pins s σ H _ _ v u Q I rx ry ⟨_, _, rfl, rfl, hl, end_int sm rfl q⟩
  · cases hg
theorem op_powD : OpR X (binaryOp .Pow) (RD2 X.K powD) := by
  intro pins s σ H x y v u Q I rx ry h
  obtain ⟨F, d, e, z, sm, hx, hy, hg, q⟩ := h
  cases d <;> cases e <;> simp only [powD] at hg <;> try (cases hg; done)
  obtain rfl := hx.int
  obtain rfl := hy.int
  split at hg
  · cases hg
    rename_i hl
    exact op_pow pins s σ H _ _ v u Q I rx ry ⟨_, _, rfl, rfl, hl, end_int sm rfl q⟩
  · cases hg
theorem op_eqQ (hu : X.A.units + 64 < cLine) : OpR X (compareOp .Eq) (RD2 X.K eqD) := by
  intro pins s σ H x y v u Q I rx ry h
  obtain ⟨F, d, e, z, sm, hx, hy, hg, q⟩ := h
  unfold eqD at hg
  split at hg
  · rename_i hs
    rw [Bool.and_eq_true] at hs
    cases hg
    exact op_eqD hu pins s σ H x y v u Q I rx ry ⟨d, e, hx.dp sm hs.1, hy.dp sm hs.2, hs.1, hs.2, end_bl sm rfl q⟩
  · cases hg
theorem op_neQ (hu : X.A.units + 64 < cLine) : OpR X (compareOp .NotEq) (RD2 X.K neD) := by
  intro pins s σ H x y v u Q I rx ry h
  obtain ⟨F, d, e, z, sm, hx, hy, hg, q⟩ := h
  unfold neD at hg
  split at hg
  · rename_i hs
    rw [Bool.and_eq_true] at hs
    cases hg
    exact op_neD hu pins s σ H x y v u Q I rx ry ⟨d, e, hx.dp sm hs.1, hy.dp sm hs.2, hs.1, hs.2, end_bl sm rfl q⟩
  · cases hg
theorem op_cmpD {op : CmpOp} {p : Int → Int → Bool} (ho : OpR X (compareOp op) (rI0 fun i j => .bl (p i j))) : OpR X (compareOp op) (RD2 X.K (cmpD p)) := by
  intro pins s σ H x y v u Q I rx ry h
  obtain ⟨F, d, e, z, sm, hx, hy, hg, q⟩ := h
  cases d <;> cases e <;> simp only [cmpD] at hg <;> try (cases hg; done)
  obtain rfl := hx.int
  obtain rfl := hy.int
  cases hg
  exact ho pins s σ H _ _ v u Q I rx ry ⟨_, _, rfl, rfl, end_bl sm rfl q⟩
theorem op_ltD : OpR X (compareOp .Lt) (RD2 X.K ltD) := op_cmpD op_lt
theorem op_leD : OpR X (compareOp .LtE) (RD2 X.K leD) := op_cmpD op_le
theorem op_gtD : OpR X (compareOp .Gt) (RD2 X.K gtD) := op_cmpD op_gt
theorem op_geD : OpR X (compareOp .GtE) (RD2 X.K geD) := op_cmpD op_ge
theorem flat_of {K : PySem.W.Frag} {F : Hp} {v : V} {d : Dt} (h : Dq K F v d) (f : flatD d = true) : flatV v = true := by
  cases h <;> first | rfl | cases f
theorem flats_of {K : PySem.W.Frag} {F : Hp} : ∀ {vs : List V} {ds : List Dt}, DqAll K F vs ds → ds.all flatD = true → vs.all flatV = true
  | _, _, .nil, _ => rfl
  | _, _, .cons h t, f => by
    rw [List.all_cons, Bool.and_eq_true] at f
    rw [List.all_cons, flat_of h f.1, flats_of t f.2]
    rfl
theorem eqv_flat {K : PySem.W.Frag} {F : Hp} {v u : V} {d e : Dt} (h : Dq K F v d) (g : Dq K F u e) (f : flatD d = true) (f' : flatD e = true) : eqV v u = PyData.eqv d e := by
  cases h <;> first | (cases f; done) | (cases g <;> first | (cases f'; done) | rfl | simp [eqV, PyData.eqv])
theorem inV_of {K : PySem.W.Frag} {F : Hp} {u : V} {e : Dt} (g : Dq K F u e) (f' : flatD e = true) : ∀ {vs : List V} {ds : List Dt}, DqAll K F vs ds → ds.all flatD = true → inV u vs = inB e ds
  | _, _, .nil, _ => rfl
  | _, _, .cons h t, f => by
    rw [List.all_cons, Bool.and_eq_true] at f
    unfold inV inB
    rw [List.any_cons, List.any_cons, eqv_flat h g f.1 f']
    have := inV_of g f' t f.2
    unfold inV inB at this
    rw [this]
theorem RB.flat {K : PySem.W.Frag} {F H : Hp} {v : V} {d : Dt} (h : RB K F H v d) (f : flatD d = true) : Dq K F v d := by
  rcases h with h | ⟨_, _, _, _, e, _⟩
  · exact h
  · subst e; cases f
theorem op_inQ (hu : X.A.units + 65 < cLine) : OpR X (compareOp .In) (RD2 X.K inD) := by
  intro pins s σ H x y v u Q I rx ry h
  obtain ⟨F, d, e, z, sm, hx, hy, hg, q⟩ := h
  cases e <;> simp only [inD'] at hg <;> try (cases hg; done)
  · split at hg
    · rename_i hs
      rw [Bool.and_eq_true] at hs
      cases hg
      exact op_inD hu pins s σ H x y v u Q I rx ry ⟨d, _, hx.dp sm hs.1, hy.dp sm hs.2, hs.1, hs.2, end_bl sm rfl q⟩
    · cases hg
  · split at hg
    · rename_i hs
      rw [Bool.and_eq_true] at hs
      cases hg
      obtain ⟨b, ys, rfl, hb, db⟩ := hy.tup
      have hx' := hx.flat hs.1
      refine op_in_seq pins s σ H x _ v u Q I rx ry ⟨b, ys, rfl, .inr (sqT_mono sm hb), flat_of hx' hs.1, flats_of db hs.2, ?_⟩
      exact end_bl sm (by rw [inV_of hx' hs.1 db hs.2] <;> simp) q
    · cases hg
theorem op_notInQ (hu : X.A.units + 65 < cLine) : OpR X (compareOp .NotIn) (RD2 X.K notInD) := by
  intro pins s σ H x y v u Q I rx ry h
  obtain ⟨F, d, e, z, sm, hx, hy, hg, q⟩ := h
  cases e <;> simp only [inD'] at hg <;> try (cases hg; done)
  · split at hg
    · rename_i hs
      rw [Bool.and_eq_true] at hs
      cases hg
      exact op_notInD hu pins s σ H x y v u Q I rx ry ⟨d, _, hx.dp sm hs.1, hy.dp sm hs.2, hs.1, hs.2, end_bl sm rfl q⟩
    · cases hg
  · split at hg
    · rename_i hs
      rw [Bool.and_eq_true] at hs
      cases hg
      obtain ⟨b, ys, rfl, hb, db⟩ := hy.tup
      have hx' := hx.flat hs.1
      refine op_notIn_seq pins s σ H x _ v u Q I rx ry ⟨b, ys, rfl, .inr (sqT_mono sm hb), flat_of hx' hs.1, flats_of db hs.2, ?_⟩
      exact end_bl sm (by rw [inV_of hx' hs.1 db hs.2] <;> simp) q
    · cases hg
theorem RB.isNone {K : PySem.W.Frag} {F H : Hp} {v : V} {d : Dt} (h : RB K F H v d) : decide (v = V.non) = Sx.isNone d := by
  rcases h with h | ⟨_, _, _, e, rfl, _⟩
  · cases h <;> rfl
  · subst e; rfl
theorem op_isQ : OpR X (compareOp .Is) (RD2 X.K isD) := by
  intro pins s σ H x y v u Q I rx ry h
  obtain ⟨F, d, e, z, sm, hx, hy, hg, q⟩ := h
  cases e with
  | none =>
    have hg' : some (PyData.bool (isNone d)) = some z := by cases d <;> exact hg
    cases hg'
    obtain rfl := hy.non
    exact op_isN pins s σ H x _ v u Q I rx ry ⟨rfl, by rw [hx.isNone]; exact end_bl sm rfl q⟩
  | bool b =>
    cases d <;> simp only [isD'] at hg <;> try (cases hg; done)
    cases hg
    obtain rfl := hx.bl
    obtain rfl := hy.bl
    refine op_isBl pins s σ H _ _ v u Q I rx ry ⟨_, _, rfl, rfl, end_bl sm ?_ q⟩
    cases b <;> simp
  | _ => cases d <;> simp only [isD'] at hg <;> cases hg
theorem op_isNotQ : OpR X (compareOp .IsNot) (RD2 X.K isNotD) := by
  intro pins s σ H x y v u Q I rx ry h
  obtain ⟨F, d, e, z, sm, hx, hy, hg, q⟩ := h
  cases e with
  | none =>
    have hg' : some (PyData.bool (!isNone d)) = some z := by cases d <;> exact hg
    cases hg'
    obtain rfl := hy.non
    exact op_notN pins s σ H x _ v u Q I rx ry ⟨rfl, by rw [hx.isNone]; exact end_bl sm rfl q⟩
  | bool b =>
    cases d <;> simp only [isD'] at hg <;> try (cases hg; done)
    cases hg
    obtain rfl := hx.bl
    obtain rfl := hy.bl
    refine op_notBl pins s σ H _ _ v u Q I rx ry ⟨_, _, rfl, rfl, end_bl sm ?_ q⟩
    cases b <;> simp
  | _ => cases d <;> simp only [isD'] at hg <;> cases hg
theorem atI_all {K : PySem.W.Frag} {F : Hp} {vs : List V} {ds : List Dt} {i : Int} {d : Dt} (a : DqAll K F vs ds) (h : atD ds i = some d) : ∃ v, atI vs i = some v ∧ Dq K F v d := by
  unfold atD atI at h
  unfold atI
  rw [a.length]
  cases e : ixN ds.length i with
  | none => rw [e] at h; cases h
  | some j =>
    rw [e] at h
    obtain ⟨v, h1, h2⟩ := a.getD (show ds[j]? = some d from h)
    exact ⟨v, h1, h2⟩
theorem ix_D : IxR X (RD2 X.K ixD) := by
  intro ve se pins s σ H x y v u Q I rx ry h hss
  obtain ⟨F, d, e, z, sm, hx, hy, hg, q⟩ := h
  cases d <;> cases e <;> simp only [ixD] at hg <;> try (cases hg; done)
  · obtain rfl := hx.str
    obtain rfl := hy.int
    split at hg
    · rename_i z' i hl
      cases e : atI z'.cps.toList i with
      | none => rw [e] at hg; cases hg
      | some c =>
        rw [e] at hg
        cases hg
        exact ix_str ve se pins s σ H _ _ v u Q I rx ry ⟨_, _, c, rfl, rfl, sz5 hl, e, end_str sm rfl q⟩ hss
    · cases hg
  · obtain ⟨a, xs, rfl, ha, da⟩ := hx.lst sm
    obtain rfl := hy.int
    obtain ⟨w, h1, h2⟩ := atI_all da hg
    exact ix_list ve se pins s σ H _ _ v u Q I rx ry ⟨a, xs, _, w, rfl, rfl, ha, h1, q w F H (.refl sm) h2⟩ hss
  · obtain ⟨a, xs, rfl, ha, da⟩ := hx.tup
    obtain rfl := hy.int
    obtain ⟨w, h1, h2⟩ := atI_all da hg
    exact ix_tup ve se pins s σ H _ _ v u Q I rx ry ⟨a, xs, _, w, rfl, rfl, sqT_mono sm ha, h1, q w F H (.refl sm) h2⟩ hss
theorem un_negD : UnR X (unaryOp .USub) (RD1 X.K negD) := by
  intro pins s σ H x v Q I rx h
  obtain ⟨F, d, z, sm, hx, hg, q⟩ := h
  cases d <;> simp only [negD] at hg <;> try (cases hg; done)
  obtain rfl := hx.int
  cases hg
  exact un_neg pins s σ H _ v Q I rx ⟨_, rfl, end_int sm rfl q⟩
end
end Sx

namespace Sx
open PySem PySem.Spec PyProof.Rows L2

/-! ### built-ins over data -/
def intsOf : List Dt → Option (List Int)
  | [] => some []
  | .int i :: r => (intsOf r).map (i :: ·)
  | _ => none
def blsOf : List Dt → Option (List Bool)
  | [] => some []
  | .bool i :: r => (blsOf r).map (i :: ·)
  | _ => none
def lenD : List Dt → Option Dt
  | [.list ds] => some (.int ds.length)
  | [.tuple ds] => some (.int ds.length)
  | [.str z] => if z.length ≤ 100000 then some (.int z.length) else none
  | _ => none
def sumD : List Dt → Option Dt
  | [.list ds] => (intsOf ds).map fun ns => .int ns.sum
  | _ => none
def allD : List Dt → Option Dt
  | [.list ds] => (blsOf ds).map fun bs => .bool (bs.all id)
  | _ => none
def anyD : List Dt → Option Dt
  | [.list ds] => (blsOf ds).map fun bs => .bool (bs.any id)
  | _ => none
def tupleD : List Dt → Option Dt
  | [.list ds] => some (.tuple ds)
  | [.tuple ds] => some (.tuple ds)
  | _ => none
def listL : List Dt → Option (List Dt)
  | [.list ds] => some ds
  | [.tuple ds] => some ds
  | _ => none
def absD : List Dt → Option Dt
  | [.int i] => some (.int (if i < 0 then -i else i))
  | _ => none
def intD : List Dt → Option Dt
  | [.int i] => some (.int i)
  | [.bool b] => some (.int (if b then 1 else 0))
  | _ => none
section
variable {K : PySem.W.Frag} {F H : Hp}
theorem RBs.one {vs : List V} {d : Dt} (h : RBs K F H vs [d]) : ∃ v, vs = [v] ∧ RB K F H v d := by
  cases h with
  | cons a b => cases b; exact ⟨_, rfl, a⟩
theorem ints_vs : ∀ {vs : List V} {ds : List Dt} {ns : List Int}, DqAll K F vs ds → intsOf ds = some ns → vs = ns.map V.int
  | _, _, ns, .nil, e => by cases e; rfl
  | _, _, ns, .cons (d := d) (ds := ds) h t, e => by
    cases h <;> simp only [intsOf] at e <;> try (cases e; done)
    cases q : intsOf ds with
    | none => rw [q] at e; cases e
    | some ms =>
      rw [q] at e
      cases e
      rw [ints_vs t q]
      rfl
theorem bls_vs : ∀ {vs : List V} {ds : List Dt} {ns : List Bool}, DqAll K F vs ds → blsOf ds = some ns → vs = ns.map V.bl
  | _, _, ns, .nil, e => by cases e; rfl
  | _, _, ns, .cons (d := d) (ds := ds) h t, e => by
    cases h <;> simp only [blsOf] at e <;> try (cases e; done)
    cases q : blsOf ds with
    | none => rw [q] at e; cases e
    | some ms =>
      rw [q] at e
      cases e
      rw [bls_vs t q]
      rfl
end
section
variable {X : Cx}
theorem cb_len : CallR X (.builtin "len") (RDC X.K lenD) := by
  intro pins s σ H xs us Q I r h
  obtain ⟨F, ds, z, sm, hx, hg, q⟩ := h
  rcases ds with _ | ⟨d, _ | ⟨e, ds⟩⟩
  · cases hg
  · obtain ⟨v, rfl, hv⟩ := hx.one
    cases d <;> simp only [lenD] at hg <;> try (cases hg; done)
    · obtain rfl := hv.str
      split at hg
      · cases hg
        rename_i hl
        exact call_len pins s σ H _ us Q I r ⟨_, _, rfl, ⟨sz5 hl, rfl⟩, end_int sm rfl q⟩
      · cases hg
    · cases hg
      obtain ⟨a, xs, rfl, ha, da⟩ := hv.lst sm
      exact call_len pins s σ H _ us Q I r ⟨_, _, rfl, .inl ⟨xs, ha, rfl⟩, end_int sm (by rw [da.length]) q⟩
    · cases hg
      obtain ⟨a, xs, rfl, ha, da⟩ := hv.tup
      exact call_len pins s σ H _ us Q I r ⟨_, _, rfl, .inr ⟨xs, sqT_mono sm ha, rfl⟩, end_int sm (by rw [da.length]) q⟩
  · cases d <;> cases hg
theorem cb_sum (hc : X.calm = true) : CallR X (.builtin "sum") (RDC X.K sumD) := by
  intro pins s σ H xs us Q I r h
  obtain ⟨F, ds, z, sm, hx, hg, q⟩ := h
  rcases ds with _ | ⟨d, _ | ⟨e, ds⟩⟩
  · cases hg
  · obtain ⟨v, rfl, hv⟩ := hx.one
    cases d <;> simp only [sumD] at hg <;> try (cases hg; done)
    rename_i xs'
    cases e : intsOf xs' with
    | none => rw [e] at hg; cases hg
    | some ns =>
      rw [e] at hg
      cases hg
      obtain ⟨a, xs, rfl, ha, da⟩ := hv.lst sm
      obtain rfl := ints_vs da e
      exact cr_sum hc pins s σ H _ us Q I r ⟨a, ns, rfl, ha, end_int sm rfl q⟩
  · cases d <;> cases hg
theorem cb_all (hc : X.calm = true) : CallR X (.builtin "all") (RDC X.K allD) := by
  intro pins s σ H xs us Q I r h
  obtain ⟨F, ds, z, sm, hx, hg, q⟩ := h
  rcases ds with _ | ⟨d, _ | ⟨e, ds⟩⟩
  · cases hg
  · obtain ⟨v, rfl, hv⟩ := hx.one
    cases d <;> simp only [allD] at hg <;> try (cases hg; done)
    rename_i xs'
    cases e : blsOf xs' with
    | none => rw [e] at hg; cases hg
    | some ns =>
      rw [e] at hg
      cases hg
      obtain ⟨a, xs, rfl, ha, da⟩ := hv.lst sm
      obtain rfl := bls_vs da e
      exact cr_all hc pins s σ H _ us Q I r ⟨a, ns, rfl, ha, end_bl sm rfl q⟩
  · cases d <;> cases hg
theorem cb_any (hc : X.calm = true) : CallR X (.builtin "any") (RDC X.K anyD) := by
  intro pins s σ H xs us Q I r h
  obtain ⟨F, ds, z, sm, hx, hg, q⟩ := h
  rcases ds with _ | ⟨d, _ | ⟨e, ds⟩⟩
  · cases hg
  · obtain ⟨v, rfl, hv⟩ := hx.one
    cases d <;> simp only [anyD] at hg <;> try (cases hg; done)
    rename_i xs'
    cases e : blsOf xs' with
    | none => rw [e] at hg; cases hg
    | some ns =>
      rw [e] at hg
      cases hg
      obtain ⟨a, xs, rfl, ha, da⟩ := hv.lst sm
      obtain rfl := bls_vs da e
      exact cr_any hc pins s σ H _ us Q I r ⟨a, ns, rfl, ha, end_bl sm rfl q⟩
  · cases d <;> cases hg
theorem ct_tuple : CallR X (.type "tuple") (RDC X.K tupleD) := by
  intro pins s σ H xs us Q I r h
  obtain ⟨F, ds, z, sm, hx, hg, q⟩ := h
  rcases ds with _ | ⟨d, _ | ⟨e, ds⟩⟩
  · cases hg
  · obtain ⟨v, rfl, hv⟩ := hx.one
    cases d <;> simp only [tupleD] at hg <;> try (cases hg; done)
    · cases hg
      obtain ⟨a, xs, rfl, ha, da⟩ := hv.lst sm
      exact call_tupP pins s σ H _ us Q I r ⟨a, xs, rfl, .inl ⟨ha, fun p o np ho => end_tup ho sm rfl da np q⟩⟩
    · cases hg
      obtain ⟨a, xs, rfl, ha, da, pa⟩ := hv.tupP
      exact call_tupP pins s σ H _ us Q I r ⟨a, xs, rfl, .inr ⟨sqT_mono sm ha, q _ F H (.refl sm) (.tup ha da pa)⟩⟩
  · cases d <;> cases hg
theorem ct_list : CallR X (.type "list") (RLC X.K listL) := by
  intro pins s σ H xs us Q I r h
  obtain ⟨F, ds, z, sm, hx, hg, q⟩ := h
  rcases ds with _ | ⟨d, _ | ⟨e, ds⟩⟩
  · cases hg
  · obtain ⟨v, rfl, hv⟩ := hx.one
    cases d <;> simp only [listL] at hg <;> try (cases hg; done)
    · cases hg
      obtain ⟨a, xs, rfl, ha, da⟩ := hv.lst sm
      exact call_list_of pins s σ H _ us Q I r ⟨a, xs, rfl, .inl ha, fun p np => q p xs np da⟩
    · cases hg
      obtain ⟨a, xs, rfl, ha, da⟩ := hv.tup
      exact call_list_of pins s σ H _ us Q I r ⟨a, xs, rfl, .inr (sqT_mono sm ha), fun p np => q p xs np da⟩
  · cases d <;> cases hg
theorem cb_abs : CallR X (.builtin "abs") (RDC X.K absD) := by
  intro pins s σ H xs us Q I r h
  obtain ⟨F, ds, z, sm, hx, hg, q⟩ := h
  rcases ds with _ | ⟨d, _ | ⟨e, ds⟩⟩
  · cases hg
  · obtain ⟨v, rfl, hv⟩ := hx.one
    cases d <;> simp only [absD] at hg <;> try (cases hg; done)
    cases hg
    obtain rfl := hv.int
    exact call_abs pins s σ H _ us Q I r ⟨_, rfl, end_int sm rfl q⟩
  · cases d <;> cases hg
theorem ct_int : CallR X (.type "int") (RDC X.K intD) := by
  intro pins s σ H xs us Q I r h
  obtain ⟨F, ds, z, sm, hx, hg, q⟩ := h
  rcases ds with _ | ⟨d, _ | ⟨e, ds⟩⟩
  · cases hg
  · obtain ⟨v, rfl, hv⟩ := hx.one
    cases d <;> simp only [intD] at hg <;> try (cases hg; done)
    · cases hg
      obtain rfl := hv.bl
      exact call_int1 pins s σ H _ us Q I r (.inr ⟨_, rfl, end_int sm rfl q⟩)
    · cases hg
      obtain rfl := hv.int
      exact call_int1 pins s σ H _ us Q I r (.inl ⟨_, rfl, end_int sm rfl q⟩)
  · cases d <;> cases hg
end
/-- the type's name -/
def tyD : Dt → Option String
  | .none => some "NoneType"
  | .bool _ => some "bool"
  | .int _ => some "int"
  | .str _ => some "str"
  | .list _ => some "list"
  | .tuple _ => some "tuple"
  | _ => none
theorem RB.ty {K : PySem.W.Frag} {F H : Hp} {v : V} {d : Dt} {n : String} (h : RB K F H v d) (sm : Same F H) (e : tyD d = some n) : TyX K H v (.type n) := by
  cases d <;> simp only [tyD] at e <;> try (cases e; done)
  · obtain rfl := h.non; cases e; exact .base .non
  · obtain rfl := h.bl; cases e; exact .base (.bl _)
  · obtain rfl := h.int; cases e; exact .base (.int _)
  · obtain rfl := h.str; cases e; exact .base (.str _)
  · cases e
    obtain ⟨a, xs, rfl, (ha | ⟨o, ha⟩) | ⟨o, its, n, ha, hc, _⟩, da⟩ := h.lst sm
    · exact .base (.lst ha)
    · exact .base (.frz ha)
    · exact .kList ha hc
  · cases e
    obtain ⟨a, xs, rfl, ha, da⟩ := h.tup
    rcases sqT_mono sm ha with (ha | ⟨o, ha⟩) | ⟨o, its, n, ha, hc, _⟩
    · exact .base (.tup ha)
    · exact .fTuple ha
    · exact .kTuple ha hc
/-- isinstance(x, T), T a built-in type -/
def isiD (T : String) (d : Dt) : Option Dt := match tyD d with
  | some n => (kitB n T).map .bool
  | none => none
end Sx

namespace Sx
open PySem PySem.Spec PyProof.Rows L2

/-! ### expressions as functions of the slots -/
def eVar (i : Nat) : SE := fun ρ W => match ρ[i]? with
  | some (some (.d x)) => .ok (x, W)
  | _ => .bad
def eBor (i : Nat) : SE := fun ρ W => match ρ[i]? with
  | some (some (.d x)) => .ok (x, W)
  | some (some (.own xs)) => .ok (.list xs, W)
  | _ => .bad
def eC (x : Dt) : SE := fun _ W => .ok (x, W)
def eBin (g : Dt → Dt → Option Dt) (a b : SE) : SE := fun ρ W => (a ρ W).bind fun p => (b ρ p.2).bind fun q => ofO (g p.1 q.1) q.2
def eUn (g : Dt → Option Dt) (a : SE) : SE := fun ρ W => (a ρ W).bind fun p => ofO (g p.1) p.2
def aNil : SA := fun _ W => .ok ([], W)
def aCons (e : SE) (a : SA) : SA := fun ρ W => (e ρ W).bind fun p => (a ρ p.2).bind fun q => .ok (p.1 :: q.1, q.2)
def eTup (a : SA) : SE := fun ρ W => (a ρ W).bind fun p => if p.1.length ≤ 100000 then .ok (.tuple p.1, p.2) else .bad
def lLst (a : SA) : SA := fun ρ W => (a ρ W).bind fun p => if p.1.length ≤ 100000 then .ok p else .bad
def eFrz (f : SA) : SE := fun ρ W => (f ρ W).bind fun p => .ok (.list p.1, p.2)
def eCB (g : List Dt → Option Dt) (a : SA) : SE := fun ρ W => (a ρ W).bind fun p => ofO (g p.1) p.2
def lCB (g : List Dt → Option (List Dt)) (a : SA) : SA := fun ρ W => (a ρ W).bind fun p => ofO (g p.1) p.2
def asB : Dt → Option Bool
  | .bool b => some b
  | _ => none
def bOf (e : SE) : SB := fun ρ W => (e ρ W).bind fun p => ofO (asB p.1) p.2
def bAnd (a b : SB) : SB := fun ρ W => (a ρ W).bind fun p => if p.1 = true then b ρ p.2 else .ok (false, p.2)
def bOr (a b : SB) : SB := fun ρ W => (a ρ W).bind fun p => if p.1 = true then .ok (true, p.2) else b ρ p.2
def bNot (a : SB) : SB := fun ρ W => (a ρ W).bind fun p => .ok (!p.1, p.2)
def eAnd (a b : SE) : SE := fun ρ W => (bOf a ρ W).bind fun p => if p.1 = true then b ρ p.2 else .ok (.bool false, p.2)
def eNot (a : SE) : SE := fun ρ W => (bOf a ρ W).bind fun p => .ok (.bool (!p.1), p.2)
def eIf (c : SB) (a b : SE) : SE := fun ρ W => (c ρ W).bind fun p => if p.1 = true then a ρ p.2 else b ρ p.2
def eChain (g g' : Dt → Dt → Option Dt) (a b c : SE) : SE := fun ρ W => (a ρ W).bind fun p => (b ρ p.2).bind fun q => (ofO ((g p.1 q.1).bind asB) q.2).bind fun k =>
  if k.1 = true then (c ρ q.2).bind fun r => ofO (g' q.1 r.1) r.2 else .ok (.bool false, q.2)
section
variable {X : Cx} {XE : Str → Hp → Prop} {e a b c : Expr} {es : List Expr} {pos : Pos} {fa fb fc : SE} {ga : SA}
/-- args that are only read -/
def tAR (K : PySem.W.Frag) (XE : Str → Hp → Prop) (f : SA) : TA := fun σ H Q => ∃ G ρ W F, Rel K G ρ W σ F H ∧
  Pg XE G (f ρ W) fun ds W' => ∀ vs F' H', Same F F' → Rel K G ρ W' σ F' H' → (∀ F2 H2 W2, Same F' F2 → Rel K G ρ W2 σ F2 H2 → RBs K F2 H2 vs ds) → Q vs H'
theorem d_var {i : Nat} {x : Str} (h : PE X (.Name x pos) (tVar i)) : PE X (.Name x pos) (tE X.K XE (eVar i)) := by
  refine h.weak fun σ H Q ⟨G, ρ, W, F, R, p⟩ => ?_
  unfold eVar at p
  split at p
  · rename_i y hy
    obtain ⟨v, h1, h2⟩ := R.sl i _ hy
    exact ⟨v, h1, p v F H (.refl _) R h2⟩
  · exact p.elim
theorem d_bor {i : Nat} {x : Str} (h : PE X (.Name x pos) (tVar i)) : PE X (.Name x pos) (tR X.K XE (eBor i)) := by
  refine h.weak fun σ H Q ⟨G, ρ, W, F, R, p⟩ => ?_
  unfold eBor at p
  split at p
  · rename_i y hy
    obtain ⟨v, h1, h2⟩ := R.sl i _ hy
    exact ⟨v, h1, p v F H (.refl _) R fun F' H' W' s _ => .inl (Dq.mono h2 s)⟩
  · rename_i xs hy
    obtain ⟨v, h1, h2⟩ := R.sl i _ hy
    refine ⟨v, h1, p v F H (.refl _) R fun F' H' W' s R' => ?_⟩
    obtain ⟨v', h1', p', vs', e1, _, h3, h4⟩ := R'.sl i _ hy
    rw [h1] at h1'
    cases h1'
    exact .inr ⟨p', vs', xs, e1, rfl, h3, h4⟩
  · exact p.elim
theorem d_r (h : PE X e (tE X.K XE fa)) : PE X e (tR X.K XE fa) := by
  refine h.weak fun σ H Q ⟨G, ρ, W, F, R, p⟩ => ⟨G, ρ, W, F, R, p.mono fun d W' q v F' H' s R' hv => q v F' H' s R' fun F2 H2 W2 s2 _ => .inl (hv.mono s2)⟩
theorem d_c {v : V} {d : Dt} (h : PE X e (tC v)) (hd : ∀ F, Dq X.K F v d) : PE X e (tE X.K XE (eC d)) := by
  refine h.weak fun σ H Q ⟨G, ρ, W, F, R, p⟩ => ?_
  exact p v F H (.refl _) R (hd F)
theorem d_int {i : Int} {j : Nat} : PE X (.Constant (.int i) j pos) (tE X.K XE (eC (.int i))) := d_c pe_int fun _ => .int i
theorem d_str {i : Str} {j : Nat} : PE X (.Constant (.str i) j pos) (tE X.K XE (eC (.str i))) := d_c pe_str fun _ => .str i
theorem d_bl {i : Bool} {j : Nat} : PE X (.Constant (.bool i) j pos) (tE X.K XE (eC (.bool i))) := d_c pe_bl fun _ => .bl i
theorem d_non {j : Nat} : PE X (.Constant .none j pos) (tE X.K XE (eC .none)) := d_c pe_non fun _ => .non
theorem tOp_of {g : Dt → Dt → Option Dt} {σ : L2.St} {H : Hp} {Q : VK} (h : tE X.K XE (eBin g fa fb) σ H Q) : tOp (RD2 X.K g) (tR X.K XE fa) (tR X.K XE fb) σ H Q := by
  obtain ⟨G, ρ, W, F, R, p⟩ := h
  refine ⟨G, ρ, W, F, R, p.of_bind.mono fun d W1 q v F1 H1 s1 R1 st1 => ⟨G, ρ, W1, F1, R1, q.of_bind.mono fun e W2 q2 y F2 H2 s2 R2 st2 => ?_⟩⟩
  obtain ⟨z, hz, q3⟩ := q2.of_ofO
  exact ⟨F2, d, e, z, R2.fh, st1 F2 H2 W2 s2 R2, st2 F2 H2 W2 (.refl _) R2, hz, fun w F' H' g0 hw => q3 w F' H' ((s1.trans s2).trans g0.ff) (R2.grow g0) hw⟩
theorem d_bin {op : Operator} {g : Dt → Dt → Option Dt} (ho : OpR X (binaryOp op) (RD2 X.K g)) (ha : PE X a (tR X.K XE fa)) (hb : PE X b (tR X.K XE fb)) : PE X (.BinOp a op b pos) (tE X.K XE (eBin g fa fb)) :=
  (pe_op ho ha hb).weak fun _ _ _ => tOp_of
theorem d_cmp {op : CmpOp} {g : Dt → Dt → Option Dt} (ho : OpR X (compareOp op) (RD2 X.K g)) (ha : PE X a (tR X.K XE fa)) (hb : PE X b (tR X.K XE fb)) (hm : behindInMarks op b = false) : PE X (.Compare a [op] [b] pos) (tE X.K XE (eBin g fa fb)) :=
  (pe_cmpR ho ha hb hm).weak fun _ _ _ => tOp_of
theorem d_ix {g : Dt → Dt → Option Dt} (ho : IxR X (RD2 X.K g)) (ha : PE X a (tR X.K XE fa)) (hb : PE X b (tR X.K XE fb)) (hs : PlainIx b) : PE X (.Subscript a b pos) (tE X.K XE (eBin g fa fb)) :=
  (pe_ix ho ha hb hs).weak fun _ _ _ => tOp_of
theorem d_un {op : UnaryOp} {g : Dt → Option Dt} (ho : UnR X (unaryOp op) (RD1 X.K g)) (ha : PE X a (tR X.K XE fa)) : PE X (.UnaryOp op a pos) (tE X.K XE (eUn g fa)) := by
  refine (pe_un ho ha).weak fun σ H Q ⟨G, ρ, W, F, R, p⟩ => ?_
  refine ⟨G, ρ, W, F, R, p.of_bind.mono fun d W1 q v F1 H1 s1 R1 st1 => ?_⟩
  obtain ⟨z, hz, q3⟩ := q.of_ofO
  exact ⟨F1, d, z, R1.fh, st1 F1 H1 W1 (.refl _) R1, hz, fun w F' H' g0 hw => q3 w F' H' (s1.trans g0.ff) (R1.grow g0) hw⟩
/-! tests -/
theorem test_of {σ : L2.St} {H : Hp} {Q : Bool → Hp → Prop} (h : tT X.K XE (bOf fa) σ H Q) : tE X.K XE fa σ H fun x H' => ∃ k, x = .bl k ∧ Q k H' := by
  obtain ⟨G, ρ, W, F, R, p⟩ := h
  refine ⟨G, ρ, W, F, R, p.of_bind.mono fun d W1 q v F1 H1 s1 R1 hv => ?_⟩
  obtain ⟨k, hk, q3⟩ := q.of_ofO
  cases d <;> simp only [asB] at hk <;> try (cases hk; done)
  cases hk
  cases hv
  exact ⟨_, rfl, q3 F1 H1 s1 R1⟩
theorem c_val (h : PE X e (tE X.K XE fa)) (he : ∀ whole, isTrue e X.env whole = (do let v ← whole; standAt e.pos; holding [v] (truthy v)) := by intro _; rfl) : PT X e (tT X.K XE (bOf fa)) :=
  (pt_val h he).weak fun _ _ _ => test_of
theorem c_cmp {op : CmpOp} {g : Dt → Dt → Option Dt} (ho : OpR X (compareOp op) (RD2 X.K g)) (ha : PE X a (tR X.K XE fa)) (hb : PE X b (tR X.K XE fb)) (hm : behindInMarks op b = false) : PT X (.Compare a [op] [b] pos) (tT X.K XE (bOf (eBin g fa fb))) :=
  (pt_cmpR ho ha hb hm).weak fun _ _ _ h => tOp_of (test_of h)
variable {ba bb : SB} {rest : List Expr}
theorem c_and1 (ha : PT X a (tT X.K XE ba)) : PW X (.BoolOp .And [a] pos) (tT X.K XE ba) := pw_and1 ha
theorem c_or1 (ha : PT X a (tT X.K XE ba)) : PW X (.BoolOp .Or [a] pos) (tT X.K XE ba) := pw_or1 ha
theorem c_and (ha : PT X a (tT X.K XE ba)) (hb : PW X (.BoolOp .And (b :: rest) pos) (tT X.K XE bb)) : PW X (.BoolOp .And (a :: b :: rest) pos) (tT X.K XE (bAnd ba bb)) := by
  refine (pw_and ha hb).weak fun σ H Q ⟨G, ρ, W, F, R, p⟩ => ?_
  refine ⟨G, ρ, W, F, R, p.of_bind.mono fun d W1 q F1 H1 s1 R1 => ?_⟩
  cases d with
  | true => exact ⟨G, ρ, W1, F1, R1, Pg.mono q fun k W2 q2 F2 H2 s2 R2 => q2 F2 H2 (s1.trans s2) R2⟩
  | false => exact q F1 H1 s1 R1
theorem c_or (ha : PT X a (tT X.K XE ba)) (hb : PW X (.BoolOp .Or (b :: rest) pos) (tT X.K XE bb)) : PW X (.BoolOp .Or (a :: b :: rest) pos) (tT X.K XE (bOr ba bb)) := by
  refine (pw_or ha hb).weak fun σ H Q ⟨G, ρ, W, F, R, p⟩ => ?_
  refine ⟨G, ρ, W, F, R, p.of_bind.mono fun d W1 q F1 H1 s1 R1 => ?_⟩
  cases d with
  | false => exact ⟨G, ρ, W1, F1, R1, Pg.mono q fun k W2 q2 F2 H2 s2 R2 => q2 F2 H2 (s1.trans s2) R2⟩
  | true => exact q F1 H1 s1 R1
theorem c_not (ha : PT X a (tT X.K XE ba)) : PT X (.UnaryOp .Not a pos) (tT X.K XE (bNot ba)) := by
  refine (pt_not ha).weak fun σ H Q ⟨G, ρ, W, F, R, p⟩ => ?_
  exact ⟨G, ρ, W, F, R, p.of_bind.mono fun d W1 q F1 H1 s1 R1 => q F1 H1 s1 R1⟩
/-! and, or, not as values -/
theorem bl_of {σ : L2.St} {H : Hp} {G : Gh} {ρ : Sl} {W : Tw} {F : Hp} {β : Type} {k : Bool × Tw → Res (β × Tw)} {P : β → Tw → Prop} {Q : VK} (R : Rel X.K G ρ W σ F H) (p : Pg XE G ((bOf fa ρ W).bind k) P)
    (hq : ∀ (d : Bool) W1 F1 H1, Same F F1 → Rel X.K G ρ W1 σ F1 H1 → Pg XE G (k (d, W1)) P → Q (.bl d) H1) : tE X.K XE fa σ H Q := by
  refine ⟨G, ρ, W, F, R, p.of_bind.of_bind.mono fun d W1 q v F1 H1 s1 R1 hv => ?_⟩
  obtain ⟨b, hb, q2⟩ := q.of_ofO
  cases d <;> simp only [asB] at hb <;> try (cases hb; done)
  cases hb
  cases hv
  exact hq _ W1 F1 H1 s1 R1 q2
theorem d_one {op} (h : PE X a (tE X.K XE fa)) : PE X (.BoolOp op [a] pos) (tE X.K XE fa) := pe_one h
theorem d_and (ha : PE X a (tE X.K XE fa)) (hb : PE X (.BoolOp .And (b :: rest) pos) (tE X.K XE fb)) : PE X (.BoolOp .And (a :: b :: rest) pos) (tE X.K XE (eAnd fa fb)) := by
  refine (pe_and ha hb).weak fun σ H Q ⟨G, ρ, W, F, R, p⟩ => bl_of R p fun d W1 F1 H1 s1 R1 q => ⟨d, rfl, ?_⟩
  cases d with
  | true => exact ⟨G, ρ, W1, F1, R1, Pg.mono q fun k W2 q2 v F2 H2 s2 R2 => q2 v F2 H2 (s1.trans s2) R2⟩
  | false => exact q _ F1 H1 s1 R1 (.bl false)
theorem d_not (ha : PE X a (tE X.K XE fa)) : PE X (.UnaryOp .Not a pos) (tE X.K XE (eNot fa)) := by
  refine (pe_not ha).weak fun σ H Q ⟨G, ρ, W, F, R, p⟩ => bl_of R p fun d W1 F1 H1 s1 R1 q => ⟨d, rfl, ?_⟩
  exact q _ F1 H1 s1 R1 (.bl _)
theorem d_if (hc : PT X c (tT X.K XE ba)) (ha : PE X a (tE X.K XE fa)) (hb : PE X b (tE X.K XE fb)) : PE X (.IfExp c a b pos) (tE X.K XE (eIf ba fa fb)) := by
  refine (pe_ifExp hc ha hb).weak fun σ H Q ⟨G, ρ, W, F, R, p⟩ => ?_
  refine ⟨G, ρ, W, F, R, p.of_bind.mono fun d W1 q F1 H1 s1 R1 => ?_⟩
  cases d with
  | true => exact ⟨G, ρ, W1, F1, R1, Pg.mono q fun k W2 q2 v F2 H2 s2 R2 => q2 v F2 H2 (s1.trans s2) R2⟩
  | false => exact ⟨G, ρ, W1, F1, R1, Pg.mono q fun k W2 q2 v F2 H2 s2 R2 => q2 v F2 H2 (s1.trans s2) R2⟩
theorem chain_of {g g' : Dt → Dt → Option Dt} {σ : L2.St} {H : Hp} {Q : VK} (h : tE X.K XE (eChain g g' fa fb fc) σ H Q) : tChain (RD2 X.K g) (RD2 X.K g') (tR X.K XE fa) (tR X.K XE fb) (tR X.K XE fc) σ H Q := by
  obtain ⟨G, ρ, W, F, R, p⟩ := h
  refine ⟨G, ρ, W, F, R, p.of_bind.mono fun d W1 q v F1 H1 s1 R1 st1 => ⟨G, ρ, W1, F1, R1, q.of_bind.mono fun e W2 q2 y F2 H2 s2 R2 st2 => ?_⟩⟩
  obtain ⟨k, hk, q3⟩ := q2.of_bind.of_ofO
  cases hz : g d e with
  | none => rw [hz] at hk; cases hk
  | some z =>
    rw [hz] at hk
    have hk' : asB z = some k := hk
    cases z <;> simp only [asB] at hk' <;> try (cases hk'; done)
    cases hk'
    refine ⟨F2, d, e, _, R2.fh, st1 F2 H2 W2 s2 R2, st2 F2 H2 W2 (.refl _) R2, hz, fun w F' H' g0 hw => ?_⟩
    cases hw
    refine ⟨_, rfl, ?_⟩
    cases k with
    | true =>
      refine ⟨G, ρ, W2, F', R2.grow g0, q3.of_bind.mono fun r W3 q4 u F3 H3 s3 R3 st3 => ?_⟩
      obtain ⟨z', hz', q5⟩ := q4.of_ofO
      exact ⟨F3, e, r, z', R3.fh, st2 F3 H3 W3 (g0.ff.trans s3) R3, st3 F3 H3 W3 (.refl _) R3, hz', fun w F4 H4 g4 hw => q5 w F4 H4 ((((s1.trans s2).trans g0.ff).trans s3).trans g4.ff) (R3.grow g4) hw⟩
    | false => exact q3 _ F' H' ((s1.trans s2).trans g0.ff) (R2.grow g0) (.bl false)
theorem d_chain {op op' : CmpOp} {g g' : Dt → Dt → Option Dt} (ho : OpR X (compareOp op) (RD2 X.K g)) (ho' : OpR X (compareOp op') (RD2 X.K g')) (ha : PE X a (tR X.K XE fa)) (hb : PE X b (tR X.K XE fb)) (hc : PE X c (tR X.K XE fc))
    (hm : lastMarks [op, op'] [b, c] = false := by with_unfolding_all rfl) : PE X (.Compare a [op, op'] [b, c] pos) (tE X.K XE (eChain g g' fa fb fc)) := (pe_chain ho ho' ha hb hc hm).weak fun _ _ _ => chain_of
theorem c_chain {op op' : CmpOp} {g g' : Dt → Dt → Option Dt} (ho : OpR X (compareOp op) (RD2 X.K g)) (ho' : OpR X (compareOp op') (RD2 X.K g')) (ha : PE X a (tR X.K XE fa)) (hb : PE X b (tR X.K XE fb)) (hc : PE X c (tR X.K XE fc))
    (hm : lastMarks [op, op'] [b, c] = false := by with_unfolding_all rfl) : PT X (.Compare a [op, op'] [b, c] pos) (tT X.K XE (bOf (eChain g g' fa fb fc))) := (pt_chain ho ho' ha hb hc hm).weak fun _ _ _ h => chain_of (test_of h)
/-! arguments -/
theorem a_nil : PA X [] (tA X.K XE aNil) := pa_nil.weak fun σ H Q ⟨G, ρ, W, F, R, p⟩ => p [] F H (.refl _) R .nil
theorem a_cons (ha : PE X e (tE X.K XE fa)) (hr : PA X es (tA X.K XE ga)) (hs : starEach (e :: es) X.env = (false, eval e X.env) :: starEach es X.env := by rfl) : PA X (e :: es) (tA X.K XE (aCons fa ga)) := by
  refine (pa_cons ha hr hs).weak fun σ H Q ⟨G, ρ, W, F, R, p⟩ => ?_
  exact ⟨G, ρ, W, F, R, p.of_bind.mono fun d W1 q v F1 H1 s1 R1 hv => ⟨G, ρ, W1, F1, R1, q.of_bind.mono fun ds W2 q2 vs F2 H2 s2 R2 hvs => q2 _ F2 H2 (s1.trans s2) R2 (.cons (hv.mono s2) hvs)⟩⟩
theorem r_nil : PA X [] (tAR X.K XE aNil) := pa_nil.weak fun σ H Q ⟨G, ρ, W, F, R, p⟩ => p [] F H (.refl _) R fun _ _ _ _ _ => .nil
theorem r_cons (ha : PE X e (tR X.K XE fa)) (hr : PA X es (tAR X.K XE ga)) (hs : starEach (e :: es) X.env = (false, eval e X.env) :: starEach es X.env := by rfl) : PA X (e :: es) (tAR X.K XE (aCons fa ga)) := by
  refine (pa_cons ha hr hs).weak fun σ H Q ⟨G, ρ, W, F, R, p⟩ => ?_
  exact ⟨G, ρ, W, F, R, p.of_bind.mono fun d W1 q v F1 H1 s1 R1 hv => ⟨G, ρ, W1, F1, R1, q.of_bind.mono fun ds W2 q2 vs F2 H2 s2 R2 hvs => q2 _ F2 H2 (s1.trans s2) R2 fun F3 H3 W3 s3 R3 => .cons (hv F3 H3 W3 (s2.trans s3) R3) (hvs F3 H3 W3 s3 R3)⟩⟩
theorem d_tup {x1} (h : PA X es (tA X.K XE ga)) : PE X (.Tuple es x1 pos) (tE X.K XE (eTup ga)) := by
  refine (pe_tupP h).weak fun σ H Q ⟨G, ρ, W, F, R, p⟩ => ?_
  refine ⟨G, ρ, W, F, R, p.of_bind.mono fun ds W1 q vs F1 H1 s1 R1 hv => ?_⟩
  by_cases hl : ds.length ≤ 100000
  · have q' : ∀ v F' H', Same F F' → Rel X.K G ρ W1 σ F' H' → Dq X.K F' v (.tuple ds) → Q v H' := by
      have q1 := q
      simp only [hl, if_true] at q1
      exact q1
    refine ⟨sz5 (by rw [hv.length]; exact hl), fun np o hp ho => ?_⟩
    have g : Gr0 X.K F1 H1 (upd F1 np (.frz o (.tup vs))) (upd H1 np (.frz o (.tup vs))) := .new R1.fh hp
    exact q' _ _ _ (s1.trans g.ff) (R1.grow g) (.tup (.inl (.inr ⟨o, upd_same⟩)) (hv.mono g.ff) (.inl ⟨o, upd_same, ho⟩))
  · simp only [hl, if_false] at q
    exact q.elim
theorem l_lst (h : PA X es (tA X.K XE ga)) : PE X (.List es pos) (tL X.K XE (lLst ga)) := by
  refine (pe_lst h).weak fun σ H Q ⟨G, ρ, W, F, R, p⟩ => ?_
  refine ⟨G, ρ, W, F, R, p.of_bind.mono fun ds W1 q vs F1 H1 s1 R1 hv => ?_⟩
  by_cases hl : ds.length ≤ 100000
  · simp only [hl, if_true] at q
    refine ⟨sz5 (by rw [hv.length]; exact hl), fun np hp => ?_⟩
    have g : Gr0 X.K F1 H1 F1 (upd H1 np (.lst vs)) := .newH R1.fh hp
    exact q np vs F1 _ s1 (R1.grow g) (R1.fresh hp) upd_same (R1.fh.free hp) hv
  · simp only [hl, if_false] at q
    exact q.elim
/-- a new list, told to all -/
theorem d_frz (h : PE X e (tL X.K XE ga)) : PE X e (tE X.K XE (eFrz ga)) := by
  refine h.weak fun σ H Q ⟨G, ρ, W, F, R, p⟩ => ⟨G, ρ, W, F, R, p.of_bind.mono fun ds W1 q np vs F1 H1 s1 R1 fr hp hF hv => ?_⟩
  have sF : Same F1 (upd F1 np (.lst vs)) := same_new hF
  exact q _ (upd F1 np (.lst vs)) H1 (s1.trans sF) (R1.freeze hp hF fr) (.lst (.inl (.inl upd_same)) (hv.mono sF))
/-! calls of built-ins -/
theorem tCB_of {g : List Dt → Option Dt} {σ : L2.St} {H : Hp} {Q : VK} (h : tE X.K XE (eCB g ga) σ H Q) : tCB (RDC X.K g) (tAR X.K XE ga) σ H Q := by
  obtain ⟨G, ρ, W, F, R, p⟩ := h
  refine ⟨G, ρ, W, F, R, p.of_bind.mono fun ds W1 q vs F1 H1 s1 R1 st => ?_⟩
  obtain ⟨z, hz, q3⟩ := q.of_ofO
  exact ⟨F1, ds, z, R1.fh, st F1 H1 W1 (.refl _) R1, hz, fun w F' H' g0 hw => q3 w F' H' (s1.trans g0.ff) (R1.grow g0) hw⟩
theorem lCB_of {g : List Dt → Option (List Dt)} {σ : L2.St} {H : Hp} {Q : VK} (h : tL X.K XE (lCB g ga) σ H Q) : tCB (RLC X.K g) (tAR X.K XE ga) σ H Q := by
  obtain ⟨G, ρ, W, F, R, p⟩ := h
  refine ⟨G, ρ, W, F, R, p.of_bind.mono fun ds W1 q vs F1 H1 s1 R1 st => ?_⟩
  obtain ⟨z, hz, q3⟩ := q.of_ofO
  refine ⟨F1, ds, z, R1.fh, st F1 H1 W1 (.refl _) R1, hz, fun np us hp hv => ?_⟩
  have g : Gr0 X.K F1 H1 F1 (upd H1 np (.lst us)) := .newH R1.fh hp
  exact q3 np us F1 _ s1 (R1.grow g) (R1.fresh hp) upd_same (R1.fh.free hp) hv
variable {x : Str} {p : Pos} {id : String}
theorem d_callB {g : List Dt → Option Dt} (hc : CallR X (.builtin id) (RDC X.K g)) (hg : Gl X x) (hm : X.mg x = none) (hv : bootBuiltins x = some (.builtin id)) (ha : PA X (e :: es) (tAR X.K XE ga)) (hn : x ≠ "__name__" := by decide) (hdb : (x == ("__debug__" : Str)) = false := by decide)
    (he : starEach (e :: es) X.env = (false, eval e X.env) :: starEach es X.env := by rfl) (hpl : (backTo pos (starEach es X.env)).any (·.1) = false := by rfl) : PE X (.Call (.Name x p) (e :: es) [] pos) (tE X.K XE (eCB g ga)) := (pe_callB hc hg hm hv ha hn hdb he hpl).weak fun _ _ _ => tCB_of
theorem d_callTy {g : List Dt → Option Dt} (hc : CallR X (.type id) (RDC X.K g)) (hg : Gl X x) (hm : X.mg x = none) (hv : bootBuiltins x = some (.type id)) (ha : PA X (e :: es) (tAR X.K XE ga)) (hn : x ≠ "__name__" := by decide) (hdb : (x == ("__debug__" : Str)) = false := by decide)
    (he : starEach (e :: es) X.env = (false, eval e X.env) :: starEach es X.env := by rfl) (hpl : (backTo pos (starEach es X.env)).any (·.1) = false := by rfl) : PE X (.Call (.Name x p) (e :: es) [] pos) (tE X.K XE (eCB g ga)) := (pe_callTy hc hg hm hv ha hn hdb he hpl).weak fun _ _ _ => tCB_of
theorem l_callTy {g : List Dt → Option (List Dt)} (hc : CallR X (.type id) (RLC X.K g)) (hg : Gl X x) (hm : X.mg x = none) (hv : bootBuiltins x = some (.type id)) (ha : PA X (e :: es) (tAR X.K XE ga)) (hn : x ≠ "__name__" := by decide) (hdb : (x == ("__debug__" : Str)) = false := by decide)
    (he : starEach (e :: es) X.env = (false, eval e X.env) :: starEach es X.env := by rfl) (hpl : (backTo pos (starEach es X.env)).any (·.1) = false := by rfl) : PE X (.Call (.Name x p) (e :: es) [] pos) (tL X.K XE (lCB g ga)) := (pe_callTy hc hg hm hv ha hn hdb he hpl).weak fun _ _ _ => lCB_of
/-- isinstance(e, T), T a built-in type's name -/
theorem d_isi {n : String} {t : Str} {pt : Pos} (hg : Gl X "isinstance") (hm : X.mg "isinstance" = none) (hgt : Gl X t) (hmt : X.mg t = none) (hvt : bootBuiltins t = some (.type n)) (ha : PE X a (tR X.K XE fa)) (hn : t ≠ "__name__" := by decide) (hdt : (t == ("__debug__" : Str)) = false := by decide)
    (he : starEach [a, .Name t pt] X.env = (false, eval a X.env) :: starEach [.Name t pt] X.env := by rfl) (he2 : starEach [.Name t pt] X.env = (false, eval (.Name t pt) X.env) :: starEach [] X.env := by rfl) (hpl : (backTo pos (starEach [.Name t pt] X.env)).any (·.1) = false := by rfl) :
    PE X (.Call (.Name "isinstance" p) [a, .Name t pt] [] pos) (tE X.K XE (eUn (isiD n) fa)) := by
  refine (pe_callB call_isi hg hm (by decide +kernel) (pa_cons ha (pa_cons (pe_bltn (v := .ty n) hgt hmt hvt rfl hn hdt) pa_nil he2) he) (by decide) (by decide) he hpl).weak fun σ H Q ⟨G, ρ, W, F, R, p⟩ => ?_
  refine ⟨G, ρ, W, F, R, p.of_bind.mono fun d W1 q v F1 H1 s1 R1 st1 => ?_⟩
  obtain ⟨z, hz, q3⟩ := q.of_ofO
  have rb := st1 F1 H1 W1 (.refl _) R1
  unfold isiD at hz
  cases ht : tyD d with
  | none => rw [ht] at hz; cases hz
  | some m =>
    rw [ht] at hz
    cases hk : kitB m n with
    | none => simp only [hk] at hz; cases hz
    | some b =>
      simp only [hk] at hz
      cases hz
      exact ⟨v, .ty n, .type m, .type n, b, rfl, .ty n, rb.ty R1.fh ht, kit_ty hk, q3 _ F1 H1 s1 R1 (.bl b)⟩
end
end Sx

namespace Sx
open PySem PySem.Spec PyProof.Rows L2

/-! ### slices -/
def cutD (xs : List Dt) (lo hi : Option Int) : List Dt := (xs.drop (HT.sIx xs.length 0 lo)).take (HT.sIx xs.length xs.length hi - HT.sIx xs.length 0 lo)
def sliceD (d : Dt) (lo hi : Option Int) : Option Dt := match d with
  | .tuple ds => some (.tuple (cutD ds lo hi))
  | .list ds => some (.list (cutD ds lo hi))
  | .str z => if z.length ≤ 100000 then some (.str (cutS z lo hi)) else none
  | _ => none
abbrev SO := Sl → Tw → Res (Option Int × Tw)
def oNone : SO := fun _ W => .ok (none, W)
def asI : Dt → Option Int
  | .int i => some i
  | _ => none
def oSome (e : SE) : SO := fun ρ W => (e ρ W).bind fun p => ofO ((asI p.1).map some) p.2
def eSlice (e : SE) (lo hi : SO) : SE := fun ρ W => (e ρ W).bind fun p => (lo ρ p.2).bind fun l => (hi ρ l.2).bind fun h => ofO (sliceD p.1 l.1 h.1) h.2
def tO (K : PySem.W.Frag) (XE : Str → Hp → Prop) (f : SO) : TO := fun σ H Q => ∃ G ρ W F, Rel K G ρ W σ F H ∧
  Pg XE G (f ρ W) fun o W' => ∀ F' H', Same F F' → Rel K G ρ W' σ F' H' → Q o H'
theorem DqAll.cut {K : PySem.W.Frag} {F : Hp} {vs : List V} {ds : List Dt} (h : DqAll K F vs ds) (lo hi : Option Int) : DqAll K F (cutV vs lo hi) (cutD ds lo hi) := by
  unfold cutV cutD
  rw [h.length]
  exact (h.drop _).take _
section
variable {X : Cx} {XE : Str → Hp → Prop} {e a b c : Expr} {es : List Expr} {pos p2 : Pos} {fa fb fc : SE} {ga gb : SA} {lo hi : Option Expr} {fl fh : SO}
theorem o_none : PO X none (tO X.K XE oNone) := ⟨fun pins s σ H Q I ⟨G, ρ, W, F, R, p⟩ => po_none.run pins s σ H Q I (p F H (.refl _) R)⟩
theorem o_some (h : PE X e (tE X.K XE fa)) : PO X (some e) (tO X.K XE (oSome fa)) := ⟨fun pins s σ H Q I ⟨G, ρ, W, F, R, p⟩ => (po_some h).run pins s σ H Q I ⟨G, ρ, W, F, R, p.of_bind.mono fun d W1 q v F1 H1 s1 R1 hv => by
  obtain ⟨o, ho, q2⟩ := q.of_ofO
  cases d <;> simp only [asI] at ho <;> try (cases ho; done)
  cases ho
  cases hv
  exact ⟨_, rfl, q2 F1 H1 s1 R1⟩⟩⟩
def rSlD (K : PySem.W.Frag) : V → Option Int → Option Int → Hp → VK → Prop := fun x lo hi H Q => ∃ F d z, Same F H ∧ RB K F H x d ∧ sliceD d lo hi = some z ∧ ∀ v F' H', Gr0 K F H F' H' → Dq K F' v z → Q v H'
theorem sl_D : SlR X (rSlD X.K) := by
  intro pins s σ H x v vl vu lo hi sl Q I rx hs pl pu h
  obtain ⟨F, d, z, sm, hx, hg, q⟩ := h
  cases d <;> simp only [sliceD] at hg <;> try (cases hg; done)
  · obtain rfl := hx.str
    split at hg
    · cases hg
      rename_i hl
      exact sl_str pins s σ H _ v vl vu lo hi sl Q I rx hs pl pu ⟨_, rfl, sz5 hl, end_str sm rfl q⟩
    · cases hg
  · cases hg
    obtain ⟨a, xs, rfl, ha, da⟩ := hx.lst sm
    exact sl_list pins s σ H _ v vl vu lo hi sl Q I rx hs pl pu ⟨a, xs, rfl, ha, fun p np => end_lst sm rfl (da.cut lo hi) np q⟩
  · cases hg
    obtain ⟨a, xs, rfl, ha, da, pa⟩ := hx.tupP
    refine sl_tupP pins s σ H _ v vl vu lo hi sl Q I rx hs pl pu ⟨a, xs, rfl, sqT_mono sm ha, fun w => ?_, fun _ p o np ho => end_tup ho sm rfl (da.cut lo hi) np q⟩
    have hc := da.cut lo hi
    have e : cutV xs lo hi = xs := by
      unfold cutV
      rw [w.1, w.2, List.drop_zero, Nat.sub_zero, List.take_length]
    rw [e] at hc
    exact q _ F H (.refl sm) (.tup ha hc pa)
theorem d_slice (he : PE X e (tR X.K XE fa)) (hl : PO X lo (tO X.K XE fl)) (hu : PO X hi (tO X.K XE fh)) : PE X (.Subscript e (.Slice lo hi none p2) pos) (tE X.K XE (eSlice fa fl fh)) := by
  refine (pe_slice sl_D he hl hu).weak fun σ H Q ⟨G, ρ, W, F, R, p⟩ => ?_
  refine ⟨G, ρ, W, F, R, p.of_bind.mono fun d W1 q v F1 H1 s1 R1 st1 => ⟨G, ρ, W1, F1, R1, q.of_bind.mono fun l W2 q2 F2 H2 s2 R2 => ⟨G, ρ, W2, F2, R2, q2.of_bind.mono fun u W3 q3 F3 H3 s3 R3 => ?_⟩⟩⟩
  obtain ⟨z, hz, q4⟩ := q3.of_ofO
  exact ⟨F3, d, z, R3.fh, st1 F3 H3 W3 (s2.trans s3) R3, hz, fun w F' H' g0 hw => q4 w F' H' (((s1.trans s2).trans s3).trans g0.ff) (R3.grow g0) hw⟩

/-! ### new lists by + and * -/
def addL : Dt → Dt → Option (List Dt)
  | .list a, .list b => if a.length + b.length ≤ 100000 then some (a ++ b) else none
  | _, _ => none
def mulL : Dt → Dt → Option (List Dt)
  | .list a, .int k => if k ≤ 1000 ∧ -1000 ≤ k ∧ a.length ≤ 1000 then some (List.replicate k.toNat a).flatten else none
  | _, _ => none
def lBin (g : Dt → Dt → Option (List Dt)) (a b : SE) : SA := fun ρ W => (a ρ W).bind fun p => (b ρ p.2).bind fun q => ofO (g p.1 q.1) q.2
theorem op_addL : OpR X (binaryOp .Add) (RL2 X.K addL) := by
  intro pins s σ H x y v u Q I rx ry h
  obtain ⟨F, d, e, z, sm, hx, hy, hg, q⟩ := h
  cases d <;> cases e <;> simp only [addL] at hg <;> try (cases hg; done)
  obtain ⟨a, xs, rfl, ha, da⟩ := hx.lst sm
  obtain ⟨b, ys, rfl, hb, db⟩ := hy.lst sm
  split at hg
  · cases hg
    rename_i hl
    exact op_catR pins s σ H _ _ v u Q I rx ry ⟨a, b, xs, ys, rfl, rfl, ha, hb, sz5 (by rw [da.length, db.length]; exact hl), fun p np => q p _ np (da.append db)⟩
  · cases hg
theorem op_mulL : OpR X (binaryOp .Mult) (RL2 X.K mulL) := by
  intro pins s σ H x y v u Q I rx ry h
  obtain ⟨F, d, e, z, sm, hx, hy, hg, q⟩ := h
  cases d <;> cases e <;> simp only [mulL] at hg <;> try (cases hg; done)
  obtain ⟨a, xs, rfl, ha, da⟩ := hx.lst sm
  obtain rfl := hy.int
  split at hg
  · cases hg
    rename_i k hl
    refine op_repR pins s σ H _ _ v u Q I rx ry ⟨a, k, xs, rfl, rfl, ha, by omega, by omega, ?_, fun p np => q p _ np (da.rep _)⟩
    rw [da.length]
    exact sz6 (Nat.le_trans (Nat.mul_le_mul hl.2.2 (show k.toNat ≤ 1000 by omega)) (by decide))
  · cases hg
theorem l_bin {op : Operator} {g : Dt → Dt → Option (List Dt)} (ho : OpR X (binaryOp op) (RL2 X.K g)) (ha : PE X a (tR X.K XE fa)) (hb : PE X b (tR X.K XE fb)) : PE X (.BinOp a op b pos) (tL X.K XE (lBin g fa fb)) := by
  refine (pe_op ho ha hb).weak fun σ H Q ⟨G, ρ, W, F, R, p⟩ => ?_
  refine ⟨G, ρ, W, F, R, p.of_bind.mono fun d W1 q v F1 H1 s1 R1 st1 => ⟨G, ρ, W1, F1, R1, q.of_bind.mono fun e W2 q2 y F2 H2 s2 R2 st2 => ?_⟩⟩
  obtain ⟨z, hz, q3⟩ := q2.of_ofO
  refine ⟨F2, d, e, z, R2.fh, st1 F2 H2 W2 s2 R2, st2 F2 H2 W2 (.refl _) R2, hz, fun np vs hp hv => ?_⟩
  have g : Gr0 X.K F2 H2 F2 (upd H2 np (.lst vs)) := .newH R2.fh hp
  exact q3 np vs F2 _ (s1.trans s2) (R2.grow g) (R2.fresh hp) upd_same (R2.fh.free hp) hv
end

/-! ### promises and calls -/
def spP (K : PySem.W.Frag) (n : Nat) (Fs : List Dt → Res Dt) : Sp := fun vs H Q _ => ∃ F ds, Same F H ∧ TabsF (tabsOf K) F H ∧ DqAll K F vs ds ∧ ds.length = n ∧ match Fs ds with
  | .ok r => ∀ v F' H', Gr0 K F H F' H' → Dq K F' v r → Q v H'
  | _ => False
/-- .. that gives a new list -/
def spL (K : PySem.W.Frag) (n : Nat) (Fs : List Dt → Res (List Dt)) : Sp := fun vs H Q _ => ∃ F ds, Same F H ∧ TabsF (tabsOf K) F H ∧ DqAll K F vs ds ∧ ds.length = n ∧ match Fs ds with
  | .ok r => ∀ p us F' H', Gr0 K F H F' H' → H p = none → H' p = some (.lst us) → F' p = none → DqAll K F' us r → Q (.ref p) H'
  | _ => False
/-- .. whose second argument is the town, which it may change -/
def spT (K : PySem.W.Frag) (n : Nat) (Fs : List Dt → List Dt → Res (Dt × List Dt)) : Sp := fun vs H Q _ => ∃ F d ds v0 t vr tv ws, vs = v0 :: .ref t :: vr ∧ Same F H ∧ TabsF (tabsOf K) F H ∧ Dq K F v0 d ∧ DqAll K F vr ds ∧ ds.length = n ∧
  H t = some (.lst tv) ∧ F t = none ∧ DqAll K F tv ws ∧ match Fs (d :: ds) ws with
  | .ok r => ∀ v F' H' tv', Gr K (fun a => a = t) F H F' H' → H' t = some (.lst tv') → F' t = none → DqAll K F' tv' r.2 → Dq K F' v r.1 → Q v H'
  | _ => False
def resT {α : Type} : Res α → Tw → Res (α × Tw)
  | .ok r, W => .ok (r, W)
  | _, _ => .bad
def eCall (n : Nat) (Fs : List Dt → Res Dt) (a : SA) : SE := fun ρ W => (a ρ W).bind fun p => if p.1.length = n then resT (Fs p.1) p.2 else .bad
def lCall (n : Nat) (Fs : List Dt → Res (List Dt)) (a : SA) : SA := fun ρ W => (a ρ W).bind fun p => if p.1.length = n then resT (Fs p.1) p.2 else .bad
def twnT : Res (Dt × List Dt) → Res (Dt × Tw)
  | .ok r => .ok (r.1, some r.2)
  | _ => .bad
def eCallT (n : Nat) (Fs : List Dt → List Dt → Res (Dt × List Dt)) (e : SE) (i : Nat) (a : SA) : SE := fun ρ W => (e ρ W).bind fun p => match ρ[i]? with
  | some (some .town) => (a ρ p.2).bind fun q => match q.2 with
    | some ws => if q.1.length = n then twnT (Fs (p.1 :: q.1) ws) else .bad
    | none => .bad
  | _ => .bad
theorem Pg.of_resT {α : Type} {XE : Str → Hp → Prop} {G : Gh} {r : Res α} {W : Tw} {P : α → Tw → Prop} (h : Pg XE G (resT r W) P) : ∃ a, r = .ok a ∧ P a W := by
  cases r with
  | ok a => exact ⟨a, rfl, h⟩
  | exc c => exact h.elim
  | bad => exact h.elim
theorem Rel.newTown {K : PySem.W.Frag} {G : Gh} {ρ : Sl} {W W' : Tw} {σ : L2.St} {F H F' H' : Hp} {t : Addr} {tv' : List V} {ws' : List Dt} (R : Rel K G ρ W σ F H) (hT : G.T = some t) (g : Gr K (fun a => a = t) F H F' H') (h1 : H' t = some (.lst tv')) (h2 : F' t = none) (h3 : DqAll K F' tv' ws') :
    Rel K G ρ (some ws') σ F' H' := by
  have noF : ∀ a, F a = none → H a ≠ none → F' a = none := fun a hF hH => Classical.byContradiction fun z => by
    rcases g.nw a z with q | q
    · exact q hF
    · exact hH q
  refine ⟨⟨R.gr.ff.trans g.ff, g.fh, fun a e => ?_, fun a o e n nt => ?_, fun a e => g.th a (R.gr.th a e), fun t => g.tb (R.gr.tb t)⟩, R.len, R.t0, R.t1, ?_, fun i sv e => ?_, R.dj, fun i a ha => ?_, fun e he => ?_, R.xt, g.tb R.tb, R.kk⟩
  · rcases g.nw a e with z | z
    · exact R.gr.nw a z
    · exact .inr (Classical.byContradiction fun q => R.gr.th a q z)
  · refine g.kp a o (R.gr.kp a o e n nt) (fun z => ?_) nt
    subst z
    rcases R.t1 a hT with q | q
    · exact n q
    · rw [e] at q; cases q
  · rw [hT]
    exact ⟨tv', h1, h2, h3⟩
  · obtain ⟨v, e1, e2⟩ := R.sl i sv e
    exact ⟨v, e1, e2.keep g.ff fun a o ho nt hf => g.kp a o ho (fun z => (R.fr i a hf).2.2.2 (by rw [hT, z])) nt⟩
  · obtain ⟨e1, e2, e3, e4⟩ := R.fr i a ha
    exact ⟨noF a e1 e2, g.th a e2, e3, e4⟩
  · obtain ⟨e1, e2, e3, e4⟩ := R.ex e he
    have hn : e.1 ≠ t := fun z => e3 (by rw [hT, z])
    exact ⟨g.kp _ _ e1 hn (R.xt e he), noF _ e2 (by rw [e1]; exact fun z => nomatch z), e3, e4⟩
theorem Pg.of_ite {α : Type} {XE : Str → Hp → Prop} {G : Gh} {c : Prop} [Decidable c] {r : Res (α × Tw)} {P : α → Tw → Prop} (h : Pg XE G (if c then r else .bad) P) : c ∧ Pg XE G r P := by
  by_cases hc : c
  · rw [if_pos hc] at h; exact ⟨hc, h⟩
  · rw [if_neg hc] at h; exact h.elim
section
variable {X : Cx} {XE : Str → Hp → Prop} {e a : Expr} {es : List Expr} {pos p pt : Pos} {fa : SE} {ga : SA} {k n : Nat} {f : Addr} {fd : FuncData} {ps : List Str} {x t : Str}
theorem call_of {Fs : List Dt → Res Dt} {E : XK} {σ : L2.St} {H : Hp} {Q : VK} (h : tE X.K XE (eCall n Fs ga) σ H Q) : tCall (spP X.K n Fs) [] E (tA X.K XE ga) σ H Q := by
  obtain ⟨G, ρ, W, F, R, p⟩ := h
  refine ⟨G, ρ, W, F, R, p.of_bind.mono fun ds W1 q vs F1 H1 s1 R1 hv => ?_⟩
  obtain ⟨hl, q⟩ := Pg.of_ite q
  obtain ⟨r, hr, q⟩ := Pg.of_resT q
  rw [List.append_nil]
  refine ⟨F1, ds, R1.fh, R1.tb, hv, hl, ?_⟩
  rw [hr]
  exact fun v F' H' g hw => q v F' H' (s1.trans g.ff) (R1.grow g) hw
theorem lcall_of {Fs : List Dt → Res (List Dt)} {E : XK} {σ : L2.St} {H : Hp} {Q : VK} (h : tL X.K XE (lCall n Fs ga) σ H Q) : tCall (spL X.K n Fs) [] E (tA X.K XE ga) σ H Q := by
  obtain ⟨G, ρ, W, F, R, p⟩ := h
  refine ⟨G, ρ, W, F, R, p.of_bind.mono fun ds W1 q vs F1 H1 s1 R1 hv => ?_⟩
  obtain ⟨hl, q⟩ := Pg.of_ite q
  obtain ⟨r, hr, q⟩ := Pg.of_resT q
  rw [List.append_nil]
  refine ⟨F1, ds, R1.fh, R1.tb, hv, hl, ?_⟩
  rw [hr]
  exact fun np us F' H' g hp h2 h3 hw => q np us F' H' (s1.trans g.ff) (R1.grow g) (R1.fresh hp) h2 h3 hw
theorem d_call {Fs : List Dt → Res Dt} (F : FnOk X.prog X.w X.K X.mg X.base CX0 k f fd ps (spP X.K n Fs)) (hr : Room k X.A) (hg : Gl X x) (hm : X.mg x = some (.ref f)) (hk : PySem.W.keepIn X.K (.ref f) = true) (hb : Binds X.K fd ps []) (ha : PA X (e :: es) (tA X.K XE ga))
    (hdb : (x == ("__debug__" : Str)) = false := by decide) (he : starEach (e :: es) X.env = (false, eval e X.env) :: starEach es X.env := by rfl) (hpl : (backTo pos (starEach es X.env)).any (·.1) = false := by rfl) :
    PE X (.Call (.Name x p) (e :: es) [] pos) (tE X.K XE (eCall n Fs ga)) := (pe_call F hr hg hm hk hb .nil pass0 ha hdb he hpl).weak fun _ _ _ => call_of
theorem d_call0 {Fs : List Dt → Res Dt} (F : FnOk X.prog X.w X.K X.mg X.base CX0 k f fd ps (spP X.K n Fs)) (hr : Room k X.A) (hg : Gl X x) (hm : X.mg x = some (.ref f)) (hk : PySem.W.keepIn X.K (.ref f) = true) (hb : Binds X.K fd ps [])
    (hdb : (x == ("__debug__" : Str)) = false := by decide) : PE X (.Call (.Name x p) [] [] pos) (tE X.K XE (eCall n Fs aNil)) := by
  refine (pe_call0 F hr hg hm hk hb .nil pass0 hdb).weak fun σ H Q h => ?_
  obtain ⟨G, ρ, W, F, R, p⟩ := h
  have p : Pg XE G (if ([] : List Dt).length = n then resT (Fs []) W else .bad) _ := p
  obtain ⟨hl, q⟩ := Pg.of_ite p
  obtain ⟨r, hr, q⟩ := Pg.of_resT q
  refine ⟨F, [], R.fh, R.tb, .nil, hl, ?_⟩
  rw [hr]
  exact fun v F' H' g hw => q v F' H' g.ff (R.grow g) hw
theorem l_call {Fs : List Dt → Res (List Dt)} (F : FnOk X.prog X.w X.K X.mg X.base CX0 k f fd ps (spL X.K n Fs)) (hr : Room k X.A) (hg : Gl X x) (hm : X.mg x = some (.ref f)) (hk : PySem.W.keepIn X.K (.ref f) = true) (hb : Binds X.K fd ps []) (ha : PA X (e :: es) (tA X.K XE ga))
    (hdb : (x == ("__debug__" : Str)) = false := by decide) (he : starEach (e :: es) X.env = (false, eval e X.env) :: starEach es X.env := by rfl) (hpl : (backTo pos (starEach es X.env)).any (·.1) = false := by rfl) :
    PE X (.Call (.Name x p) (e :: es) [] pos) (tL X.K XE (lCall n Fs ga)) := (pe_call F hr hg hm hk hb .nil pass0 ha hdb he hpl).weak fun _ _ _ => lcall_of
theorem d_callT {Fs : List Dt → List Dt → Res (Dt × List Dt)} {i : Nat} (F : FnOk X.prog X.w X.K X.mg X.base CX0 k f fd ps (spT X.K n Fs)) (hr : Room k X.A) (hg : Gl X x) (hm : X.mg x = some (.ref f)) (hk : PySem.W.keepIn X.K (.ref f) = true) (hb : Binds X.K fd ps [])
    (h0 : PE X a (tE X.K XE fa)) (ht : PE X (.Name t pt) (tVar i)) (ha : PA X es (tA X.K XE ga))
    (hdb : (x == ("__debug__" : Str)) = false := by decide) (he : starEach (a :: .Name t pt :: es) X.env = (false, eval a X.env) :: starEach (.Name t pt :: es) X.env := by rfl) (he2 : starEach (.Name t pt :: es) X.env = (false, eval (.Name t pt) X.env) :: starEach es X.env := by rfl) (hpl : (backTo pos (starEach (.Name t pt :: es) X.env)).any (·.1) = false := by rfl) :
    PE X (.Call (.Name x p) (a :: .Name t pt :: es) [] pos) (tE X.K XE (eCallT n Fs fa i ga)) := by
  refine (pe_call F hr hg hm hk hb .nil pass0 (pa_cons h0 (pa_cons ht ha he2) he) hdb he hpl).weak fun σ H Q h => ?_
  obtain ⟨G, ρ, W, F, R, p⟩ := h
  refine ⟨G, ρ, W, F, R, p.of_bind.mono fun d W1 q v0 F1 H1 s1 R1 hv0 => ?_⟩
  simp only at q
  split at q
  · rename_i ht
    obtain ⟨v, h1, t, h2, rfl⟩ := R1.sl i _ ht
    refine ⟨_, h1, ⟨G, ρ, W1, F1, R1, q.of_bind.mono fun ds W2 q2 vs F2 H2 s2 R2 hvs => ?_⟩⟩
    simp only at q2
    split at q2
    · rename_i ws
      obtain ⟨hl, q2⟩ := Pg.of_ite q2
      have tw := R2.tw
      rw [h2] at tw
      obtain ⟨tv, t1, t2, t3⟩ := tw
      refine ⟨F2, d, ds, v0, t, vs, tv, ws, by rw [List.append_nil], R2.fh, R2.tb, hv0.mono s2, hvs, hl, t1, t2, t3, ?_⟩
      cases hF : Fs (d :: ds) ws with
      | ok r =>
        rw [hF] at q2
        exact fun w F' H' tv' g k1 k2 k3 hw => q2 w F' H' ((s1.trans s2).trans g.ff) (R2.newTown (W' := some r.2) h2 g k1 k2 k3) hw
      | exc c => rw [hF] at q2; exact q2.elim
      | bad => rw [hF] at q2; exact q2.elim
    · exact q2.elim
  · exact q.elim
end
end Sx

namespace Sx
open PySem PySem.Spec PyProof.Rows L2

/-! ### lists and tuples alike (k: is it a tuple) -/
def SqK (k : Bool) (K : PySem.W.Frag) (H : Hp) (a : Addr) (xs : List V) : Prop := match k with
  | true => SqT K H a xs
  | false => SqL K H a xs
def HIt (k : Bool) (h : Heap) (it a : Addr) (i : Nat) : Prop := match k with
  | true => h.IsTupleIter it a i
  | false => h.IsListIter it a i
def HSq (k : Bool) (h : Heap) (a : Addr) (items : Array Value) : Prop := match k with
  | true => h.IsTuple a items
  | false => h.IsList a items
def itO (k : Bool) (a : Addr) : Obj := { cls := .type (if k then "tuple_iterator" else "list_iterator"), data := .fields #[.ref a, .int 0 0] }
theorem HIt.obj {k : Bool} {h : Heap} {it a : Addr} {i : Nat} (x : HIt k h it a i) : ∃ o, h.get? it = some o ∧ ∀ v, o.data ≠ .cell v := by
  cases k
  · obtain ⟨o, e, c, d⟩ := x
    exact ⟨o, e, fun v z => by rw [d] at z; cases z⟩
  · obtain ⟨o, e, c, d⟩ := x
    exact ⟨o, e, fun v z => by rw [d] at z; cases z⟩
theorem HIt.at {k : Bool} {h h' : Heap} {it a : Addr} {i : Nat} (x : HIt k h it a i) (q : ∀ o, h.get? it = some o → h'.get? it = some o) : HIt k h' it a i := by
  cases k
  · exact Heap.IsListIter.at x q
  · exact Heap.IsTupleIter.at x q
theorem HIt.new {k : Bool} {h : Heap} {it a : Addr} (e : h.get? it = some (itO k a)) : HIt k h it a 0 := by
  cases k
  · exact ⟨_, e, rfl, rfl⟩
  · exact ⟨_, e, rfl, rfl⟩
theorem beginsK (k : Bool) (a : Addr) (items : Array Value) : Begins (.ref a) (itO k a) (fun h => HSq k h a items) := by
  cases k
  · exact begins_list a items
  · exact begins_tuple a items
theorem drawsK (k : Bool) {prog : Program} {w : World} {A : Around} (hh : A.handled = none) (it a : Addr) (hne : a ≠ it) (items : Array Value) :
    Draws prog w A it [it, a] items.size (fun i v => items[i]? = some v) (fun i h => HIt k h it a i ∧ HSq k h a items) := by
  cases k
  · exact Draws.list hh it a hne items
  · exact Draws.tuple hh it a hne items
theorem sqK {X : Cx} {pins : List (Addr × Obj)} {σ : L2.St} {H : Hp} {s : Shared} {k : Bool} {a : Addr} {xs : List V} (I : Inv X pins σ H s) (h : SqK k X.K H a xs) : ∃ its : List Value, Vals xs its ∧ HSq k s.heap a its.toArray ∧ a < s.heap.objs.size := by
  cases k
  · obtain ⟨its, r, p, _⟩ := I.list h
    exact ⟨its, r, p.isList, p.lt⟩
  · obtain ⟨its, r, p, _⟩ := I.tuple h
    obtain ⟨o, ho, _⟩ := id p
    exact ⟨its, r, p, Heap.lt_size ho⟩
theorem sqK_inj {X : Cx} {pins : List (Addr × Obj)} {σ : L2.St} {H : Hp} {s : Shared} {k : Bool} {a : Addr} {xs ys : List V} (I : Inv X pins σ H s) (h : SqK k X.K H a xs) (h' : SqK k X.K H a ys) : xs = ys := by
  cases k
  · exact I.list_inj h h'
  · exact I.tuple_inj h h'

/-! ### enumerate(e) -/
theorem meets_enum1 {v : Value} {o : Obj} {H : Heap → Prop} (B : Begins v o H) :
    Meets (Builtin.«enumerate.__new__» ⟨[.type "enumerate", v], []⟩) (fun _ R s => H s.heap ∧
      R (.ok (.ret (.ref (s.heap.push o).objs.size))) { s with heap := (s.heap.push o).push { cls := .type "enumerate", data := .fields #[.none, .bool false, .ref s.heap.objs.size, rawInt 0, .none, .none] } }) :=
  .of_wp fun prog w A R s h => by
    obtain ⟨hp, g, d, tk, os⟩ := s; obtain ⟨h1, h⟩ := h
    have hsub := sub_enumerate
    have q1 : ∀ {A' : Around} {E : Value → Shared → Prop} {Q : Value → Shared → Prop}, Q (.ref hp.objs.size) ⟨hp.push o, g, d, tk, os⟩ → wpAny (model prog w) A' (pyIter v) Q E ⟨hp, g, d, tk, os⟩ :=
      fun q => B.iter prog w _ _ ⟨hp, g, d, tk, os⟩ _ h1 q
    wp_walk using q1
    refine wpAny_stack_any fun st => wpAny_pure ?_
    split
    · rename_i c _ _ _ _ _
      cases (c == Value.type "enumerate")
      · wp_walk using q1
        exact ⟨_, rfl, h⟩
      · wp_walk using q1
        exact ⟨_, rfl, h⟩
    · wp_walk using q1
      exact ⟨_, rfl, h⟩
theorem enum1_begins {prog : Program} {w : World} {A : Around} {E : Value → Shared → Prop} {s : Shared} {v : Value} {o : Obj} {H : Heap → Prop} {Q : Value → Shared → Prop} (B : Begins v o H) (h1 : H s.heap)
    (h : ∀ h', IsEnum h' (s.heap.objs.size + 1) s.heap.objs.size 0 .none → h'.get? s.heap.objs.size = some o → h'.objs.size = s.heap.objs.size + 2 →
      (∀ b o, s.heap.get? b = some o → h'.get? b = some o) → Q (.ref (s.heap.objs.size + 1)) { s with heap := h' }) :
    wpAny (model prog w) A (call (.type "enumerate") [v]) Q E s := by
  refine callType_new F.called_enumerate (by decide) (F.typeCall_enumerate_1 _) (F.newCall_enumerate_1 _) (fun obj => F.args_object_init_2 obj _) F.entry_enumerate_new
    (meets_enum1 B) ⟨h1, ?_⟩
  have hz : (s.heap.push o).objs.size = s.heap.objs.size + 1 := Heap.size_push ..
  show _ ∧ _
  rw [hz]
  have he : IsEnum ((s.heap.push o).push { cls := .type "enumerate", data := .fields #[.none, .bool false, .ref s.heap.objs.size, rawInt 0, .none, .none] }) (s.heap.objs.size + 1) s.heap.objs.size 0 .none := by
    have := Heap.get?_push_size (s.heap.push o) (o := { cls := .type "enumerate", data := .fields #[.none, .bool false, .ref s.heap.objs.size, rawInt 0, .none, .none] }) rfl
    rw [hz] at this; exact this
  refine ⟨⟨_, he, rfl⟩, h _ he (Heap.get?_push_of_some _ (Heap.get?_push_size _ B.free)) (by rw [Heap.size_push, hz]) fun b o x => Heap.get?_push_of_some _ (Heap.get?_push_of_some _ x)⟩
def IteK (k : Bool) (K : PySem.W.Frag) (a : Addr) : It :=
  ⟨fun i H => ∃ (xs : List V) (x : V), SqK k K H a xs ∧ xs[i]? = some x, fun i H v H' => ∃ T x, v = .ref T ∧ H T = none ∧ H' = upd H T (.tup [.int (i : Nat), x]) ∧ ∀ xs, SqK k K H a xs → xs[i]? = some x, fun i H => ∃ xs : List V, SqK k K H a xs ∧ xs.length = i⟩
theorem turn_enumK {P : Program} {w : World} {K : PySem.W.Frag} {elts : List Expr} {kk : Nat} {tpos : Pos} (k : Bool) (a e it : Addr) :
    Turn P w K (.Tuple elts kk tpos) (IteK k K a) [e, it] e (fun i h => (∃ old, IsEnum h e it (0 + (i : Int)) old) ∧ HIt k h it a i ∧ e ≠ it ∧ a ≠ it ∧ a ≠ e) where
  mem := by simp
  obj := fun i h st b hb => by
    obtain ⟨⟨old, he⟩, hi, _⟩ := st
    have e' : b = e ∨ b = it := by simpa using hb
    rcases e' with z | z
    · rw [z]; exact ⟨_, he, fun v q => nomatch q⟩
    · rw [z]; exact hi.obj
  keep := fun i h h' st kp => let ⟨⟨old, he⟩, hi, hne⟩ := st; ⟨⟨old, kp e (by simp) _ he⟩, hi.at fun o q => kp it (by simp) o q, hne⟩
  item := by
    intro X hP hw hK hc i pins s σ H E I hf st hg
    subst hP hw hK
    obtain ⟨⟨old, he⟩, hit, hne, hna, hnb⟩ := st
    obtain ⟨xs, x, hq, hx⟩ := hg
    obtain ⟨its, rv, p, hal⟩ := sqK I hq
    obtain ⟨u, hu, ru⟩ := rv.get hx
    have hlt : i < its.toArray.size := by
      obtain ⟨h1, _⟩ := List.getElem?_eq_some_iff.mp hu
      simpa using h1
    have hel : e < s.heap.objs.size := Heap.lt_size he
    have hil : it < s.heap.objs.size := by obtain ⟨_, q, _⟩ := hit.obj; exact Heap.lt_size q
    have hh : X.A.in1.handled = none := I.ok.hd hc
    have Wk := WalksT.enumFrom (prog := X.prog) (w := X.w) (A := X.A) 0 (drawsK k hh it a hna its.toArray) e hne (by simp [hne, Ne.symm hnb]) (by simp)
    refine Wk.item i s _ _ hlt ⟨⟨old, he⟩, hit, p⟩ fun T vals h' tk hP hsz hT hMid hk => ?_
    refine ⟨_, rfl, Wk.go elts kk tpos i T _ _ _ hMid fun h'' hSt hk2 => ?_⟩
    obtain ⟨t, y, hy, rfl⟩ := hP
    have ey : y = u := by
      have : its.toArray[i]? = some u := by simpa using hu
      rw [this] at hy
      exact (Option.some.inj hy).symm
    subst ey
    have nT : T ∉ [e, it] := Wk.apart i T h' hMid
    have hT2 : h''.IsTuple T #[.int (0 + (i : Int)) t, y] := hT.at fun o q => hk2 T o nT q
    have new : ObjOk X.prog X.w (upd H T (.tup [.int (i : Nat), x])) h'' T (.tup [.int (i : Nat), x]) :=
      ⟨by show 2 ≤ sizeLine; decide, [.int (0 + (i : Int)) t, y], .cons ⟨t, by rw [Int.zero_add]⟩ (.cons ru .nil), hT2⟩
    have I1 : Inv X pins σ (upd H T (.tup [.int (i : Nat), x])) { s with heap := h'', toks := tk } :=
      I.turnedNew (ch := [e, it]) (fun b ob hb q => hk2 b ob hb (hk b ob hb q)) hf hsz new
    refine ⟨.ref T, _, I1, rfl, ⟨_, x, rfl, I.hok.fresh hsz, rfl, fun ys hy => by rw [sqK_inj I hy hq]; exact hx⟩, ⟨hSt.1, hSt.2.1, hne, hna, hnb⟩, fun b hb => ?_⟩
    have hb' : b < s.heap.objs.size := by
      have e' : b = e ∨ b = it := by simpa using hb
      rcases e' with z | z
      · rw [z]; exact hel
      · rw [z]; exact hil
    rw [upd_ne (Nat.ne_of_lt (Nat.lt_of_lt_of_le hb' hsz))]
    exact (hf b hb).1
  done := by
    intro X hP hw hK hc i pins s σ H E I hf st hg
    subst hP hw hK
    obtain ⟨⟨old, he⟩, hit, hne, hna, hnb⟩ := st
    obtain ⟨xs, hq, hx⟩ := hg
    obtain ⟨its, rv, p, hal⟩ := sqK I hq
    have hl := rv.length
    have hh : X.A.in1.handled = none := I.ok.hd hc
    have Wk := WalksT.enumFrom (prog := X.prog) (w := X.w) (A := X.A) 0 (drawsK k hh it a hna its.toArray) e hne (by simp [hne, Ne.symm hnb]) (by simp)
    have hn : i = its.toArray.size := by rw [List.size_toArray]; omega
    subst hn
    refine Wk.done s _ _ ⟨⟨old, he⟩, hit, p⟩ fun h' tk hk => ⟨rfl, I.turnedL (ch := [e, it]) (fun b o hb q => hk b o hb q) hf⟩
  self := fun A i s Q E st h => let ⟨⟨_, he⟩, _⟩ := st; wpAny_pyIter_enum he h
def iEnumK (K : PySem.W.Frag) (ta : TA) : TI := fun σ H R => ta σ H fun vs H1 => ∃ k a xs, vs = [.ref a] ∧ SqK k K H1 a xs ∧ R (IteK k K a) H1
theorem pi_enumK {X : Cx} {e : Expr} {ta : TA} {p pos tpos : Pos} {elts : List Expr} {kk : Nat} (hg : Gl X "enumerate") (hm : X.mg "enumerate" = none) (ha : PA X [e] ta) (hs : starEach [e] X.env = [(false, eval e X.env)] := by rfl) :
    PI X (.Tuple elts kk tpos) (.Call (.Name "enumerate" p) [e] [] pos) (iEnumK X.K ta) := by
  refine ⟨fun pins s σ H R I h => ?_⟩
  refine Call_ (ld_blt I hg hm boot_enumerate (PyProof.Rows.callWith_type1 (thn (ha.run pos pins s σ H _ I h) fun us s1 ⟨vs, H1, I1, r1, q1⟩ => ?_) hs rfl))
  obtain ⟨k, a, xs, ex, hq, q⟩ := q1
  subst ex
  cases r1 with
  | cons r rr =>
    cases rr
    cases r
    obtain ⟨its, rv, p', hal⟩ := sqK I1 hq
    refine enum1_begins (beginsK k a its.toArray) p' fun h' he hit hsz hk => wpAny_pyIter_enum he ?_
    have I2 : Inv X pins σ H1 { s1 with heap := h' } := I1.kept (t' := s1.toks) hk
    refine ⟨s1.heap.objs.size + 1, [s1.heap.objs.size + 1, s1.heap.objs.size], _, _, H1, rfl, I2, turn_enumK k a (s1.heap.objs.size + 1) s1.heap.objs.size, ⟨⟨.none, he⟩, HIt.new hit, Nat.succ_ne_self _, Nat.ne_of_lt hal, Nat.ne_of_lt (Nat.lt_succ_of_lt hal)⟩, fun b hb => ?_, q⟩
    have e' : b = s1.heap.objs.size + 1 ∨ b = s1.heap.objs.size := by simpa using hb
    have hle : s1.heap.objs.size ≤ b := by
      rcases e' with z | z
      · rw [z]; exact Nat.le_add_right _ _
      · rw [z]; exact Nat.le_refl _
    exact I1.fpOk hle (I1.hok.fresh hle)

/-! ### zip(e, e2) -/
def ItzK (k l : Bool) (K : PySem.W.Frag) (a b : Addr) : It :=
  ⟨fun i H => ∃ (xs ys : List V) (x y : V), SqK k K H a xs ∧ SqK l K H b ys ∧ xs[i]? = some x ∧ ys[i]? = some y,
    fun i H v H' => ∃ T x y, v = .ref T ∧ H T = none ∧ H' = upd H T (.tup [x, y]) ∧ (∀ xs, SqK k K H a xs → xs[i]? = some x) ∧ ∀ ys, SqK l K H b ys → ys[i]? = some y,
    fun i H => ∃ xs ys : List V, SqK k K H a xs ∧ SqK l K H b ys ∧ i = min xs.length ys.length⟩
structure ZAp (z TI TO i1 i2 a b : Addr) : Prop where
  S : ZipSep2 z TI TO i1 i2 [i1, a] [i2, b]
  a1 : a ≠ i1
  b2 : b ≠ i2
theorem turn_zipK {P : Program} {w : World} {K : PySem.W.Frag} {elts : List Expr} {kk : Nat} {tpos : Pos} (k l : Bool) {a b z TI TO i1 i2 : Addr} (D : ZAp z TI TO i1 i2 a b) :
    Turn P w K (.Tuple elts kk tpos) (ItzK k l K a b) [z, TI, TO, i1, i2] z (fun i h => IsZip h z TI TO .none ∧ IsTupOf2 h TI (.ref i1) (.ref i2) ∧ (∃ x y, IsTupOf2 h TO x y) ∧ HIt k h i1 a i ∧ HIt l h i2 b i) where
  mem := by simp
  obj := fun i h st c hc => by
    obtain ⟨hz, hTI, ⟨x, y, hTO⟩, h1, h2⟩ := st
    have e' : c = z ∨ c = TI ∨ c = TO ∨ c = i1 ∨ c = i2 := by simpa using hc
    rcases e' with q | q | q | q | q
    · rw [q]; exact ⟨_, hz, fun v q => nomatch q⟩
    · rw [q]; exact ⟨_, hTI, fun v q => nomatch q⟩
    · rw [q]; exact ⟨_, hTO, fun v q => nomatch q⟩
    · rw [q]; exact h1.obj
    · rw [q]; exact h2.obj
  keep := fun i h h' st kp => by
    obtain ⟨hz, hTI, ⟨x, y, hTO⟩, h1, h2⟩ := st
    exact ⟨kp z (by simp) _ hz, kp TI (by simp) _ hTI, ⟨x, y, kp TO (by simp) _ hTO⟩, h1.at fun o q => kp i1 (by simp) o q, h2.at fun o q => kp i2 (by simp) o q⟩
  item := by
    intro X hP hw hK hc i pins s σ H E I hf st hg
    subst hP hw hK
    obtain ⟨hz, hTI, ⟨x0, y0, hTO⟩, h1, h2⟩ := st
    obtain ⟨xs, ys, x, y, hqx, hqy, hx, hy⟩ := hg
    obtain ⟨its, rv, p, _⟩ := sqK I hqx
    obtain ⟨its2, rv2, p2, _⟩ := sqK I hqy
    obtain ⟨u, hu, ru⟩ := rv.get hx
    obtain ⟨u2, hu2, ru2⟩ := rv2.get hy
    have hlt : i < min its.toArray.size its2.toArray.size := by
      obtain ⟨h1, _⟩ := List.getElem?_eq_some_iff.mp hu
      obtain ⟨h2, _⟩ := List.getElem?_eq_some_iff.mp hu2
      rw [List.size_toArray, List.size_toArray]
      omega
    have hh : X.A.in1.handled = none := I.ok.hd hc
    have Wk := WalksT.zipD2 (prog := X.prog) (w := X.w) (A := X.A) D.S (drawsK k hh i1 a D.a1 its.toArray) (drawsK l hh i2 b D.b2 its2.toArray)
    refine Wk.item i s _ _ hlt ⟨hz, hTI, ⟨_, _, hTO⟩, ⟨h1, p⟩, ⟨h2, p2⟩⟩ fun T vals h' tk hP hsz hT hMid hk => ?_
    refine ⟨_, rfl, Wk.go elts kk tpos i T _ _ _ hMid fun h'' hSt hk2 => ?_⟩
    obtain ⟨w1, w2, hy1, hy2, rfl⟩ := hP
    have e1 : w1 = u := by
      have : its.toArray[i]? = some u := by simpa using hu
      rw [this] at hy1
      exact (Option.some.inj hy1).symm
    have e2 : w2 = u2 := by
      have : its2.toArray[i]? = some u2 := by simpa using hu2
      rw [this] at hy2
      exact (Option.some.inj hy2).symm
    subst e1 e2
    have nT : T ∉ [z, TO, i1, i2] := Wk.apart i T h' hMid
    have hT2 : h''.IsTuple T #[w1, w2] := hT.at fun o q => hk2 T o nT q
    have sub : ∀ c, c ∈ [z, TO, i1, i2] → c ∈ [z, TI, TO, i1, i2] := fun c hcm => by
      have e' : c = z ∨ c = TO ∨ c = i1 ∨ c = i2 := by simpa using hcm
      rcases e' with q | q | q | q <;> simp [q]
    have new : ObjOk X.prog X.w (upd H T (.tup [x, y])) h'' T (.tup [x, y]) := ⟨by show 2 ≤ sizeLine; decide, [w1, w2], .cons ru (.cons ru2 .nil), hT2⟩
    have I1 : Inv X pins σ (upd H T (.tup [x, y])) { s with heap := h'', toks := tk } :=
      I.turnedNew (ch := [z, TI, TO, i1, i2]) (fun c ob hb q => hk2 c ob (fun z => hb (sub c z)) (hk c ob (fun z => hb (sub c z)) q)) hf hsz new
    refine ⟨.ref T, _, I1, rfl, ⟨_, x, y, rfl, I.hok.fresh hsz, rfl, fun l hl => by rw [sqK_inj I hl hqx]; exact hx, fun l hl => by rw [sqK_inj I hl hqy]; exact hy⟩, ⟨hSt.1, hSt.2.1, hSt.2.2.1, hSt.2.2.2.1.1, hSt.2.2.2.2.1⟩, fun c hcm => ?_⟩
    have hlt : c < s.heap.objs.size := by
      have e' : c = z ∨ c = TI ∨ c = TO ∨ c = i1 ∨ c = i2 := by simpa using hcm
      rcases e' with q | q | q | q | q
      · rw [q]; exact Heap.lt_size hz
      · rw [q]; exact Heap.lt_size hTI
      · rw [q]; exact Heap.lt_size hTO
      · rw [q]; obtain ⟨_, e1, _⟩ := h1.obj; exact Heap.lt_size e1
      · rw [q]; obtain ⟨_, e2, _⟩ := h2.obj; exact Heap.lt_size e2
    rw [upd_ne (Nat.ne_of_lt (Nat.lt_of_lt_of_le hlt hsz))]
    exact (hf c hcm).1
  done := by
    intro X hP hw hK hc i pins s σ H E I hf st hg
    subst hP hw hK
    obtain ⟨hz, hTI, ⟨x0, y0, hTO⟩, h1, h2⟩ := st
    obtain ⟨xs, ys, hqx, hqy, hend⟩ := hg
    obtain ⟨its, rv, p, _⟩ := sqK I hqx
    obtain ⟨its2, rv2, p2, _⟩ := sqK I hqy
    have l1 := rv.length
    have l2 := rv2.length
    have hh : X.A.in1.handled = none := I.ok.hd hc
    have Wk := WalksT.zipD2 (prog := X.prog) (w := X.w) (A := X.A) D.S (drawsK k hh i1 a D.a1 its.toArray) (drawsK l hh i2 b D.b2 its2.toArray)
    have hn : i = min its.toArray.size its2.toArray.size := by rw [List.size_toArray, List.size_toArray]; omega
    subst hn
    have sub : ∀ c, c ∈ [z, TO, i1, i2] → c ∈ [z, TI, TO, i1, i2] := fun c hcm => by
      have e' : c = z ∨ c = TO ∨ c = i1 ∨ c = i2 := by simpa using hcm
      rcases e' with q | q | q | q <;> simp [q]
    refine Wk.done s _ _ ⟨hz, hTI, ⟨_, _, hTO⟩, ⟨h1, p⟩, ⟨h2, p2⟩⟩ fun h' tk hk => ⟨rfl, I.turnedL (ch := [z, TI, TO, i1, i2]) (fun b o hb q => hk b o (fun z => hb (sub b z)) q) hf⟩
  self := fun A i s Q E st h => wpAny_pyIter_zip st.1 h
def iZipK (K : PySem.W.Frag) (ta : TA) : TI := fun σ H R => ta σ H fun vs H1 => ∃ k l a b xs ys, vs = [.ref a, .ref b] ∧ SqK k K H1 a xs ∧ SqK l K H1 b ys ∧ R (ItzK k l K a b) H1
theorem pi_zipK {X : Cx} {e e2 : Expr} {ta : TA} {p pos tpos : Pos} {elts : List Expr} {kk : Nat} (hg : Gl X "zip") (hm : X.mg "zip" = none) (ha : PA X [e, e2] ta)
    (hs : starEach [e, e2] X.env = (false, eval e X.env) :: starEach [e2] X.env := by rfl) (hpl : (backTo pos (starEach [e2] X.env)).any (·.1) = false := by rfl) :
    PI X (.Tuple elts kk tpos) (.Call (.Name "zip" p) [e, e2] [] pos) (iZipK X.K ta) := by
  refine ⟨fun pins s σ H R I h => ?_⟩
  refine Call_ (ld_blt I hg hm PyProof.Rows.boot_zip (PyProof.Rows.callWith_type1 (thn (ha.run pos pins s σ H _ I h) fun us s1 ⟨vs, H1, I1, r1, q1⟩ => ?_) hs hpl))
  obtain ⟨k, l, a, b, xs, ys, ex, hqx, hqy, q⟩ := q1
  subst ex
  cases r1 with
  | cons r rr =>
    cases rr with
    | cons r' rr =>
      cases rr
      cases r
      cases r'
      obtain ⟨its, rv, p1, la⟩ := sqK I1 hqx
      obtain ⟨its2, rv2, p2, lb⟩ := sqK I1 hqy
      refine zip_begins2 (beginsK k a its.toArray) (beginsK l b its2.toArray) p1 p2 fun h' hz hTI hTO h1 h2 hsz hk => wpAny_pyIter_zip hz ?_
      have I2 : Inv X pins σ H1 { s1 with heap := h' } := I1.kept (t' := s1.toks) hk
      have S : ZipSep2 (s1.heap.objs.size + 4) (s1.heap.objs.size + 2) (s1.heap.objs.size + 3) s1.heap.objs.size (s1.heap.objs.size + 1) [s1.heap.objs.size, a] [s1.heap.objs.size + 1, b] :=
        zip_sep2 (N := s1.heap.objs.size) (fp1 := [a]) (fp2 := [b]) (fun c hc => by rw [List.mem_singleton.mp hc]; exact la) (fun c hc => by rw [List.mem_singleton.mp hc]; exact lb)
      refine ⟨s1.heap.objs.size + 4, [s1.heap.objs.size + 4, s1.heap.objs.size + 2, s1.heap.objs.size + 3, s1.heap.objs.size, s1.heap.objs.size + 1], _, _, H1, rfl, I2, turn_zipK k l ⟨S, Nat.ne_of_lt la, Nat.ne_of_lt (Nat.lt_succ_of_lt lb)⟩, ⟨hz, hTI, ⟨_, _, hTO⟩, HIt.new h1, HIt.new h2⟩, fun c hcm => ?_, q⟩
      have e' : c = s1.heap.objs.size + 4 ∨ c = s1.heap.objs.size + 2 ∨ c = s1.heap.objs.size + 3 ∨ c = s1.heap.objs.size ∨ c = s1.heap.objs.size + 1 := by simpa using hcm
      have hle : s1.heap.objs.size ≤ c := by
        rcases e' with z | z | z | z | z
        · rw [z]; exact Nat.le_add_right _ _
        · rw [z]; exact Nat.le_add_right _ _
        · rw [z]; exact Nat.le_add_right _ _
        · rw [z]; exact Nat.le_refl _
        · rw [z]; exact Nat.le_add_right _ _
      exact I1.fpOk hle (I1.hok.fresh hle)
end Sx

namespace Sx
open PySem PySem.Spec PyProof.Rows L2

/-! ### what is walked -/
abbrev Rl := PySem.W.Frag → Hp → V → Dt → Prop
/-- an item that is a tuple to be taken apart -/
def Dw : Rl := fun K F v d => Dq K F v d ∨ ∃ a xs ds, v = .ref a ∧ d = .tuple ds ∧ SqT K F a xs ∧ DqAll K F xs ds
class Opn (D : Rl) : Prop where
  op : ∀ {K : PySem.W.Frag} {F : Hp} {v : V} {ds : List Dt}, D K F v (.tuple ds) → ∃ a xs, v = .ref a ∧ SqT K F a xs ∧ DqAll K F xs ds
instance : Opn Dq := ⟨fun h => by cases h with | tup a b c => exact ⟨_, _, rfl, a, b⟩⟩
instance : Opn Dw := ⟨fun h => by
  rcases h with h | ⟨a, xs, ds', e1, e2, h1, h2⟩
  · cases h with | tup a b c => exact ⟨_, _, rfl, a, b⟩
  · cases e2; exact ⟨a, xs, e1, h1, h2⟩⟩
def WalkD (D : Rl) (K : PySem.W.Frag) (F : Hp) (J : It) (ds : List Dt) : Prop := Walk J ds.length (fun H2 => ∃ F2, Same F F2 ∧ Same F2 H2)
  (fun i H2 x H3 => ∀ F2, Same F F2 → Same F2 H2 → ∃ F3 d, ds[i]? = some d ∧ Gr0 K F2 H2 F3 H3 ∧ D K F3 x d)
def tI (D : Rl) (K : PySem.W.Frag) (XE : Str → Hp → Prop) (f : SA) : TI := fun σ H R => ∃ G ρ W F, Rel K G ρ W σ F H ∧
  Pg XE G (f ρ W) fun ds W' => ∀ J F' H', Same F F' → Rel K G ρ W' σ F' H' → WalkD D K F' J ds → R J H'
end Sx
namespace L2
theorem PI.weak {X : Cx} {tg e : PySem.Expr} {t t' : TI} (h : PI X tg e t) (w : ∀ σ H R, t' σ H R → t σ H R) : PI X tg e t' := ⟨fun pins s σ H R I hq => h.run pins s σ H R I (w σ H R hq)⟩
theorem PG.weak {X : Cx} {tg : PySem.Expr} {t t' : TG} (h : PG X tg t) (w : ∀ v σ H Q, t' v σ H Q → t v σ H Q) : PG X tg t' := ⟨fun pins s σ H v u Q I r hq => h.run pins s σ H v u Q I r (w v σ H Q hq)⟩
theorem PGs.weak {X : Cx} {tg : List PySem.Expr} {t t' : TGs} (h : PGs X tg t) (w : ∀ v σ H Q, t' v σ H Q → t v σ H Q) : PGs X tg t' := ⟨fun pins s σ H v u Q I r hq => h.run pins s σ H v u Q I r (w v σ H Q hq)⟩
end L2
namespace Sx
open PySem PySem.Spec PyProof.Rows L2
def seqOf : Dt → Option (List Dt)
  | .list ds => some ds
  | .tuple ds => some ds
  | _ => none
def iSeq (e : SE) : SA := fun ρ W => (e ρ W).bind fun p => ofO (seqOf p.1) p.2
def rngD (n : Int) : List Dt := (List.range n.toNat).map fun (i : Nat) => PyData.int (i : Int)
def rngOf : List Dt → Option (List Dt)
  | [.int n] => if n ≤ 100000 ∧ -100000 ≤ n then some (rngD n) else none
  | _ => none
def iRng (a : SA) : SA := fun ρ W => (a ρ W).bind fun p => ofO (rngOf p.1) p.2
def enumD : Nat → List Dt → List Dt
  | _, [] => []
  | n, d :: ds => .tuple [.int n, d] :: enumD (n + 1) ds
def enumOf : List Dt → Option (List Dt)
  | [d] => (seqOf d).map (enumD 0)
  | _ => none
def iEnum' (a : SA) : SA := fun ρ W => (a ρ W).bind fun p => ofO (enumOf p.1) p.2
def zipD (a b : List Dt) : List Dt := List.zipWith (fun x y => .tuple [x, y]) a b
def zipOf : List Dt → Option (List Dt)
  | [a, b] => (seqOf a).bind fun x => (seqOf b).map fun y => zipD x y
  | _ => none
def iZip' (a : SA) : SA := fun ρ W => (a ρ W).bind fun p => ofO (zipOf p.1) p.2
theorem enumD_get : ∀ (ds : List Dt) (n i : Nat) (d : Dt), ds[i]? = some d → (enumD n ds)[i]? = some (.tuple [.int ((n + i : Nat) : Int), d])
  | [], _, _, _, h => by simp at h
  | x :: ds, n, 0, d, h => by simp at h; subst h; rfl
  | x :: ds, n, i + 1, d, h => by
    have := enumD_get ds (n + 1) i d (by simpa using h)
    show (enumD (n + 1) ds)[i]? = _
    rw [this, show n + 1 + i = n + (i + 1) by omega]
theorem enumD_len : ∀ (ds : List Dt) (n : Nat), (enumD n ds).length = ds.length
  | [], _ => rfl
  | x :: ds, n => by show (enumD (n + 1) ds).length + 1 = ds.length + 1; rw [enumD_len ds]
section
variable {K : PySem.W.Frag} {F : Hp} {a b : Addr} {xs ys : List V} {ds es : List Dt}
theorem wd_list (h : SqL K F a xs) (hd : DqAll K F xs ds) : WalkD Dq K F (Itl K a) ds := by
  unfold WalkD
  rw [← hd.length]
  refine Walk.mono (walk_list (xs := xs)) (fun H ⟨F2, s1, s2⟩ => (s1.trans s2).seq h) fun i H x H' hi ⟨F2, s1, s2⟩ ⟨e, hx⟩ F2' s1' s2' => ?_
  subst e
  obtain ⟨d, h1, h2⟩ := hd.get hx
  exact ⟨F2', d, h1, .refl s2', h2.mono s1'⟩
theorem wd_tup (h : SqT K F a xs) (hd : DqAll K F xs ds) : WalkD Dq K F (Itt K a) ds := by
  unfold WalkD
  rw [← hd.length]
  refine Walk.mono (walk_tup (xs := xs)) (fun H ⟨F2, s1, s2⟩ => sqT_mono (s1.trans s2) h) fun i H x H' hi ⟨F2, s1, s2⟩ ⟨e, hx⟩ F2' s1' s2' => ?_
  subst e
  obtain ⟨d, h1, h2⟩ := hd.get hx
  exact ⟨F2', d, h1, .refl s2', h2.mono s1'⟩
theorem wd_rng {n : Int} : WalkD Dq K F (Itr 0 n.toNat) (rngD n) := by
  unfold WalkD
  have e : (rngD n).length = n.toNat := by simp [rngD]
  rw [e]
  refine Walk.mono walk_range (fun H _ => trivial) fun i H x H' hi _ ⟨e, hx⟩ F2' s1' s2' => ?_
  subst e hx
  refine ⟨F2', .int i, by simp [rngD, hi], .refl s2', ?_⟩
  show Dq K F2' (V.int ((0 : Int) + (i : Int))) (.int (i : Int))
  rw [Int.zero_add]
  exact .int _
theorem sqK_of {k : Bool} {H : Hp} (s : Same F H) (h : (k = true ∧ SqT K F a xs) ∨ (k = false ∧ SqL K F a xs)) : SqK k K H a xs := by
  rcases h with ⟨rfl, h⟩ | ⟨rfl, h⟩
  · exact sqT_mono s h
  · exact s.seq h
theorem pair_end {F2 H : Hp} {T : Addr} {x y : V} {d e : Dt} (s : Same F2 H) (hT : H T = none) (h1 : Dq K F2 x d) (h2 : Dq K F2 y e) : ∃ F3, Gr0 K F2 H F3 (upd H T (.tup [x, y])) ∧ Dw K F3 (.ref T) (.tuple [d, e]) := by
  have g : Gr0 K F2 H (upd F2 T (.tup [x, y])) (upd H T (.tup [x, y])) := .new s hT
  exact ⟨_, g, .inr ⟨T, _, _, rfl, rfl, .inl (.inl upd_same), .cons (h1.mono g.ff) (.cons (h2.mono g.ff) .nil)⟩⟩
theorem wd_enum {k : Bool} (h : (k = true ∧ SqT K F a xs) ∨ (k = false ∧ SqL K F a xs)) (hd : DqAll K F xs ds) : WalkD Dw K F (IteK k K a) (enumD 0 ds) := by
  unfold WalkD
  rw [enumD_len, ← hd.length]
  refine ⟨fun i H hi ⟨F2, s1, s2⟩ => ⟨xs, xs[i], sqK_of (s1.trans s2) h, by simp [hi]⟩, fun H ⟨F2, s1, s2⟩ => ⟨xs, sqK_of (s1.trans s2) h, rfl⟩, fun i H v H' hi ⟨F2, s1, s2⟩ ⟨T, x, e1, hT, e2, hx⟩ F2' s1' s2' => ?_⟩
  subst e1 e2
  obtain ⟨d, h1, h2⟩ := hd.get (hx xs (sqK_of (s1.trans s2) h))
  obtain ⟨F3, g, hq⟩ := pair_end s2' hT (.int (i : Nat)) (h2.mono s1')
  refine ⟨F3, _, enumD_get ds 0 i d h1, g, ?_⟩
  rw [Nat.zero_add]
  exact hq
theorem wd_zip {k l : Bool} (h : (k = true ∧ SqT K F a xs) ∨ (k = false ∧ SqL K F a xs)) (h' : (l = true ∧ SqT K F b ys) ∨ (l = false ∧ SqL K F b ys)) (hd : DqAll K F xs ds) (he : DqAll K F ys es) : WalkD Dw K F (ItzK k l K a b) (zipD ds es) := by
  unfold WalkD
  have e : (zipD ds es).length = min xs.length ys.length := by rw [hd.length, he.length]; simp [zipD]
  rw [e]
  refine ⟨fun i H hi ⟨F2, s1, s2⟩ => ?_, fun H ⟨F2, s1, s2⟩ => ⟨xs, ys, sqK_of (s1.trans s2) h, sqK_of (s1.trans s2) h', rfl⟩, fun i H v H' hi ⟨F2, s1, s2⟩ ⟨T, x, y, e1, hT, e2, hx, hy⟩ F2' s1' s2' => ?_⟩
  · have h1 : i < xs.length := by omega
    have h2 : i < ys.length := by omega
    exact ⟨xs, ys, xs[i], ys[i], sqK_of (s1.trans s2) h, sqK_of (s1.trans s2) h', by simp [h1], by simp [h2]⟩
  · subst e1 e2
    obtain ⟨d, h1, h2⟩ := hd.get (hx xs (sqK_of (s1.trans s2) h))
    obtain ⟨c, h3, h4⟩ := he.get (hy ys (sqK_of (s1.trans s2) h'))
    obtain ⟨F3, g, hq⟩ := pair_end s2' hT (h2.mono s1') (h4.mono s1')
    exact ⟨F3, _, by simp [zipD, List.getElem?_zipWith, h1, h3], g, hq⟩
end
section
variable {X : Cx} {XE : Str → Hp → Prop} {tg e a b : Expr} {es : List Expr} {pos p tpos : Pos} {fa : SE} {ga : SA} {elts : List Expr} {kk : Nat}
/-- for x in (a list or a tuple) -/
theorem i_seq (he : PE X e (tE X.K XE fa)) : PI X tg e (tI Dq X.K XE (iSeq fa)) := by
  refine ⟨fun pins s σ H R I h => ?_⟩
  obtain ⟨G, ρ, W, F, Rl, p⟩ := h
  refine thn (he.run pins s σ H (fun x H1 => ∃ ds J, (∃ F1 W1, Same F F1 ∧ Rel X.K G ρ W1 σ F1 H1 ∧ ((J = Itl X.K (match x with | .ref a => a | _ => 0) ∧ ∃ a xs, x = .ref a ∧ SqL X.K F1 a xs ∧ DqAll X.K F1 xs ds) ∨ (J = Itt X.K (match x with | .ref a => a | _ => 0) ∧ ∃ a xs, x = .ref a ∧ SqT X.K F1 a xs ∧ DqAll X.K F1 xs ds)) ∧ (WalkD Dq X.K F1 J ds → R J H1))) I ⟨G, ρ, W, F, Rl, p.of_bind.mono fun d W1 q v F1 H1 s1 R1 hv => ?_⟩) fun v s1 ⟨x, H1, I1, r1, q1⟩ => ?_
  · obtain ⟨ds, hd, q2⟩ := q.of_ofO
    cases d <;> simp only [seqOf] at hd <;> try (cases hd; done)
    · cases hd
      cases hv with
      | lst h1 h2 => exact ⟨_, Itl X.K _, F1, W1, s1, R1, .inl ⟨rfl, _, _, rfl, h1, h2⟩, fun wk => q2 _ F1 H1 s1 R1 wk⟩
    · cases hd
      cases hv with
      | tup h1 h2 => exact ⟨_, Itt X.K _, F1, W1, s1, R1, .inr ⟨rfl, _, _, rfl, h1, h2⟩, fun wk => q2 _ F1 H1 s1 R1 wk⟩
  · obtain ⟨ds, J, F1, W1, sm, R1, hJ | hJ, q⟩ := q1
    · obtain ⟨eJ, a, xs, rfl, ha, da⟩ := hJ
      cases r1
      subst eJ
      obtain ⟨its, rv, p, hz⟩ := I1.list (R1.fh.seq ha)
      refine wpAny_pyIter_list p.isList ?_
      refine ⟨s1.heap.objs.size, [s1.heap.objs.size], _, _, H1, rfl, I1.kept (t' := s1.toks) fun b o e => Heap.get?_push_of_some _ e, turn_list a _, ⟨_, Heap.get?_push_size _ rfl, rfl, rfl⟩, fun b hb => ?_, q (wd_list ha da)⟩
      have e : b = s1.heap.objs.size := by simpa using hb
      subst e
      exact I1.fpOk (Nat.le_refl _) (I1.hok.fresh (Nat.le_refl _))
    · obtain ⟨eJ, a, xs, rfl, ha, da⟩ := hJ
      cases r1
      subst eJ
      obtain ⟨its, rv, p, hz⟩ := I1.tuple (sqT_mono R1.fh ha)
      refine wpAny_pyIter_tuple (show s1.heap.IsTuple a its.toArray from p) ?_
      refine ⟨s1.heap.objs.size, [s1.heap.objs.size], _, _, H1, rfl, I1.kept (t' := s1.toks) fun b o e => Heap.get?_push_of_some _ e, turn_tuple a _, ⟨_, Heap.get?_push_size _ rfl, rfl, rfl⟩, fun b hb => ?_, q (wd_tup ha da)⟩
      have e : b = s1.heap.objs.size := by simpa using hb
      subst e
      exact I1.fpOk (Nat.le_refl _) (I1.hok.fresh (Nat.le_refl _))
theorem i_rng (hg : Gl X "range") (hm : X.mg "range" = none) (ha : PA X [a] (tA X.K XE ga)) (hs : starEach [a] X.env = [(false, eval a X.env)] := by rfl) : PI X tg (.Call (.Name "range" p) [a] [] pos) (tI Dq X.K XE (iRng ga)) := by
  refine (pi_range1 hg hm ha hs).weak fun σ H R ⟨G, ρ, W, F, Rl, p⟩ => ⟨G, ρ, W, F, Rl, p.of_bind.mono fun ds W1 q vs F1 H1 s1 R1 hv => ?_⟩
  obtain ⟨zs, hz, q2⟩ := q.of_ofO
  rcases ds with _ | ⟨d, _ | ⟨d2, ds⟩⟩
  · cases hz
  · cases d <;> simp only [rngOf] at hz <;> try (cases hz; done)
    split at hz
    · cases hz
      rename_i n hn
      cases hv with
      | cons h1 h2 =>
        cases h2
        cases h1
        exact ⟨n, rfl, by omega, by omega, q2 _ F1 H1 s1 R1 wd_rng⟩
    · cases hz
  · cases d <;> cases hz
/-- what stands for a sequence -/
theorem seq_of {K : PySem.W.Frag} {F : Hp} {v : V} {d : Dt} {ds : List Dt} (h : Dq K F v d) (e : seqOf d = some ds) : ∃ (k : Bool) (a : Addr) (xs : List V), v = .ref a ∧ ((k = true ∧ SqT K F a xs) ∨ (k = false ∧ SqL K F a xs)) ∧ DqAll K F xs ds := by
  cases h <;> simp only [seqOf] at e <;> try (cases e; done)
  · cases e; exact ⟨false, _, _, rfl, .inr ⟨rfl, by assumption⟩, by assumption⟩
  · cases e; exact ⟨true, _, _, rfl, .inl ⟨rfl, by assumption⟩, by assumption⟩
theorem i_enum (hg : Gl X "enumerate") (hm : X.mg "enumerate" = none) (ha : PA X [e] (tA X.K XE ga)) (hs : starEach [e] X.env = [(false, eval e X.env)] := by rfl) : PI X (.Tuple elts kk tpos) (.Call (.Name "enumerate" p) [e] [] pos) (tI Dw X.K XE (iEnum' ga)) := by
  refine (pi_enumK hg hm ha hs).weak fun σ H R ⟨G, ρ, W, F, Rl, p⟩ => ⟨G, ρ, W, F, Rl, p.of_bind.mono fun ds W1 q vs F1 H1 s1 R1 hv => ?_⟩
  obtain ⟨zs, hz, q2⟩ := q.of_ofO
  rcases ds with _ | ⟨d, _ | ⟨d2, ds⟩⟩
  · cases hz
  · have hz : (seqOf d).map (enumD 0) = some zs := hz
    cases hq : seqOf d with
    | none => rw [hq] at hz; cases hz
    | some es =>
      rw [hq] at hz
      cases hz
      cases hv with
      | cons h1 h2 =>
        cases h2
        obtain ⟨k, a, xs, rfl, hs, hd⟩ := seq_of h1 hq
        exact ⟨k, a, xs, rfl, sqK_of R1.fh hs, q2 _ F1 H1 s1 R1 (wd_enum hs hd)⟩
  · cases hz
theorem i_zip (hg : Gl X "zip") (hm : X.mg "zip" = none) (ha : PA X [a, b] (tA X.K XE ga))
    (hs : starEach [a, b] X.env = (false, eval a X.env) :: starEach [b] X.env := by rfl) (hpl : (backTo pos (starEach [b] X.env)).any (·.1) = false := by rfl) : PI X (.Tuple elts kk tpos) (.Call (.Name "zip" p) [a, b] [] pos) (tI Dw X.K XE (iZip' ga)) := by
  refine (pi_zipK hg hm ha hs hpl).weak fun σ H R ⟨G, ρ, W, F, Rl, p⟩ => ⟨G, ρ, W, F, Rl, p.of_bind.mono fun ds W1 q vs F1 H1 s1 R1 hv => ?_⟩
  obtain ⟨zs, hz, q2⟩ := q.of_ofO
  rcases ds with _ | ⟨d, _ | ⟨d2, _ | ⟨d3, ds⟩⟩⟩
  · cases hz
  · cases hz
  · have hz : ((seqOf d).bind fun x => (seqOf d2).map fun y => zipD x y) = some zs := hz
    cases hq : seqOf d with
    | none => rw [hq] at hz; cases hz
    | some es =>
      rw [hq] at hz
      have hz : ((seqOf d2).map fun y => zipD es y) = some zs := hz
      cases hq2 : seqOf d2 with
      | none => rw [hq2] at hz; cases hz
      | some es2 =>
        rw [hq2] at hz
        cases hz
        cases hv with
        | cons h1 h2 =>
          cases h2 with
          | cons h2 h3 =>
            cases h3
            obtain ⟨k, a, xs, rfl, hs, hd⟩ := seq_of h1 hq
            obtain ⟨l, b, ys, rfl, hs', hd'⟩ := seq_of h2 hq2
            exact ⟨k, l, a, b, xs, ys, rfl, sqK_of R1.fh hs, sqK_of R1.fh hs', q2 _ F1 H1 s1 R1 (wd_zip hs hs' hd hd')⟩
  · cases hz
end

/-! ### targets -/
abbrev SG := Dt → Sl → Option Sl
def gN (i : Nat) : SG := fun d ρ => if i < ρ.length then some (ρ.set i (some (.d d))) else none
abbrev SGs := List Dt → Sl → Option Sl
def gsNil : SGs := fun ds ρ => match ds with
  | [] => some ρ
  | _ => none
def gsCons (g : SG) (gs : SGs) : SGs := fun ds ρ => match ds with
  | d :: ds => (g d ρ).bind (gs ds)
  | [] => none
def gTu (n : Nat) (gs : SGs) : SG := fun d ρ => match d with
  | .tuple ds => if ds.length = n then gs ds ρ else none
  | _ => none
def tG (D : Rl) (K : PySem.W.Frag) (is : List Nat) (g : SG) : TG := fun v σ H Q => ∃ G ρ W F d ρ', Rel K G ρ W σ F H ∧ D K F v d ∧ g d ρ = some ρ' ∧
  ((∀ j, j ∉ is → ρ'[j]? = ρ[j]?) → ∀ σ', σ'.length = σ.length → (∀ j, j ∉ is → σ'[j]? = σ[j]?) → Rel K G ρ' W σ' F H → Q σ' H)
def tGs (K : PySem.W.Frag) (is : List Nat) (g : SGs) : TGs := fun vs σ H Q => ∃ G ρ W F ds ρ', Rel K G ρ W σ F H ∧ DqAll K F vs ds ∧ g ds ρ = some ρ' ∧
  ((∀ j, j ∉ is → ρ'[j]? = ρ[j]?) → ∀ σ', σ'.length = σ.length → (∀ j, j ∉ is → σ'[j]? = σ[j]?) → Rel K G ρ' W σ' F H → Q σ' H)
theorem Rel.setD {K : PySem.W.Frag} {G : Gh} {ρ : Sl} {W : Tw} {σ : L2.St} {F H : Hp} {i : Nat} {v : V} {d : Dt} (R : Rel K G ρ W σ F H) (hi : i < ρ.length) (hv : Dq K F v d) : Rel K G (ρ.set i (some (.d d))) W (σ.set i (some v)) F H := by
  refine ⟨R.gr, by rw [List.length_set, List.length_set]; exact R.len, R.t0, R.t1, R.tw, fun j sv e => ?_, R.dj, R.fr, R.ex, R.xt, R.tb, R.kk⟩
  by_cases hj : i = j
  · subst hj
    rw [List.getElem?_set_self hi] at e
    cases e
    exact ⟨v, List.getElem?_set_self (by rw [← R.len]; exact hi), hv⟩
  · rw [List.getElem?_set_ne hj] at e ⊢
    exact R.sl j sv e
section
variable {X : Cx} {pos : Pos}
theorem g_name {i : Nat} {x : Str} (h : PG X (.Name x pos) (gName i)) : PG X (.Name x pos) (tG Dq X.K [i] (gN i)) := by
  refine h.weak fun v σ H Q ⟨G, ρ, W, F, d, ρ', R, hv, hg, q⟩ => ?_
  unfold gN at hg
  split at hg
  · cases hg
    rename_i hi
    exact q (fun j hj => by rw [List.getElem?_set_ne (by simp at hj; exact Ne.symm hj)]) (σ.set i (some v)) (by simp) (fun j hj => by rw [List.getElem?_set_ne (by simp at hj; exact Ne.symm hj)]) (R.setD hi hv)
  · cases hg
theorem gs_nil : PGs X [] (tGs X.K [] gsNil) := by
  refine pgs_nil.weak fun vs σ H Q ⟨G, ρ, W, F, ds, ρ', R, hv, hg, q⟩ => ?_
  cases hv with
  | nil =>
    cases hg
    exact ⟨rfl, q (fun _ _ => rfl) σ rfl (fun _ _ => rfl) R⟩
  | cons _ _ => cases hg
theorem gs_cons {e : Expr} {es : List Expr} {is js : List Nat} {g : SG} {gs : SGs} (h1 : PG X e (tG Dq X.K is g)) (h2 : PGs X es (tGs X.K js gs))
    (hs : (assignEach (e :: es) X.env).map (·.2) = assign e X.env :: (assignEach es X.env).map (·.2) := by rfl) : PGs X (e :: es) (tGs X.K (is ++ js) (gsCons g gs)) := by
  refine (pgs_cons h1 h2 hs).weak fun vs σ H Q ⟨G, ρ, W, F, ds, ρ', R, hv, hg, q⟩ => ?_
  cases hv with
  | nil => cases hg
  | @cons v vs d ds hv1 hv2 =>
    have hg : (g d ρ).bind (gs ds) = some ρ' := hg
    cases hg1 : g d ρ with
    | none => rw [hg1] at hg; cases hg
    | some ρ1 =>
      rw [hg1] at hg
      refine ⟨v, vs, rfl, G, ρ, W, F, d, ρ1, R, hv1, hg1, fun hk1 σ1 l1 e1 R1 => ⟨G, ρ1, W, F, ds, ρ', R1, hv2, hg, fun hk2 σ2 l2 e2 R2 => ?_⟩⟩
      refine q (fun j hj => ?_) σ2 (l2.trans l1) (fun j hj => ?_) R2
      · rw [List.mem_append, not_or] at hj
        exact (hk2 j hj.2).trans (hk1 j hj.1)
      · rw [List.mem_append, not_or] at hj
        exact (e2 j hj.2).trans (e1 j hj.1)
theorem g_tup {D : Rl} [hD : Opn D] {es : List Expr} {k : Nat} {is : List Nat} {gs : SGs} {n : Nat} (hc : X.calm = true) (h : PGs X es (tGs X.K is gs))
    (hn : (assignEach es X.env).length = n := by rfl) (hst : (assignEach es X.env).findIdx? (·.1) = none := by rfl) : PG X (.Tuple es k pos) (tG D X.K is (gTu n gs)) := by
  refine (pg_tup hc h hn hst).weak fun v σ H Q ⟨G, ρ, W, F, d, ρ', R, hv, hg, q⟩ => ?_
  cases d <;> simp only [gTu] at hg <;> try (cases hg; done)
  split at hg
  · rename_i hl
    obtain ⟨a, xs, rfl, h1, h2⟩ := hD.op hv
    exact ⟨_, _, rfl, sqT_mono R.fh h1, by rw [h2.length]; exact hl, G, ρ, W, F, _, ρ', R, h2, hg, q⟩
  · cases hg
end
end Sx

namespace Sx
open PySem PySem.Spec PyProof.Rows L2

/-! ### slots forgotten, things held aside -/
def wipeS (ρ : Sl) : List Nat → Sl
  | [] => ρ
  | v :: vs => (wipeS ρ vs).set v none
def wipeOk (ρ : Sl) (vs : List Nat) : Bool := vs.all fun j => match ρ[j]? with
  | some (some (.d _)) => true
  | some (some _) => false
  | _ => true
theorem wipeS_length (ρ : Sl) : ∀ vs : List Nat, (wipeS ρ vs).length = ρ.length
  | [] => rfl
  | v :: vs => by unfold wipeS; rw [List.length_set, wipeS_length ρ vs]
theorem wipeS_some {ρ : Sl} {i : Nat} {x : SV} : ∀ {vs : List Nat}, (wipeS ρ vs)[i]? = some (some x) → ρ[i]? = some (some x) ∧ i ∉ vs
  | [], h => ⟨h, by simp⟩
  | v :: vs, h => by
    unfold wipeS at h
    by_cases hi : v = i
    · subst hi
      by_cases hv : v < (wipeS ρ vs).length
      · rw [List.getElem?_set_self hv] at h; cases h
      · rw [List.getElem?_eq_none (by simpa using hv)] at h; cases h
    · rw [List.getElem?_set_ne hi] at h
      obtain ⟨h1, h2⟩ := wipeS_some h
      exact ⟨h1, by simp only [List.mem_cons, not_or]; exact ⟨fun e => hi e.symm, h2⟩⟩
theorem wipeS_out {ρ : Sl} {i : Nat} : ∀ {vs : List Nat}, i ∉ vs → (wipeS ρ vs)[i]? = ρ[i]?
  | [], _ => rfl
  | v :: vs, h => by
    simp only [List.mem_cons, not_or] at h
    unfold wipeS
    rw [List.getElem?_set_ne (Ne.symm h.1), wipeS_out h.2]
theorem wipe_in {σ : L2.St} {i : Nat} : ∀ {vs : List Nat}, i ∈ vs → (wipe σ vs)[i]? = if i < σ.length then some none else none
  | [], h => by simp at h
  | v :: vs, h => by
    unfold wipe
    by_cases hi : v = i
    · subst hi
      by_cases hv : v < σ.length
      · rw [List.getElem?_set_self (by rw [wipe_length]; exact hv), if_pos hv]
      · rw [List.getElem?_eq_none (by rw [List.length_set, wipe_length]; omega), if_neg hv]
    · rw [List.getElem?_set_ne hi]
      exact wipe_in (by rcases List.mem_cons.mp h with z | z; exact absurd z.symm hi; exact z)
theorem wipe_eq {σ σ2 : L2.St} {is vs : List Nat} (hl : σ2.length = (wipe σ vs).length) (h : ∀ j, j ∉ is → σ2[j]? = (wipe σ vs)[j]?) (hs : ∀ j ∈ is, j ∈ vs) : wipe σ2 vs = wipe σ vs := by
  rw [wipe_length] at hl
  refine List.ext_getElem? fun j => ?_
  by_cases hj : j ∈ vs
  · rw [wipe_in hj, wipe_in hj, hl]
  · rw [wipe_out hj, h j fun z => hj (hs j z)]
section
variable {K : PySem.W.Frag} {G : Gh} {ρ ρ' : Sl} {W W' : Tw} {σ σ' : L2.St} {F H F' H' : Hp} {p : Addr} {o o' : HO} {E : List (Addr × HO)}
theorem Rel.wiped (R : Rel K G ρ W σ F H) (vs : List Nat) : Rel K G (wipeS ρ vs) W (wipe σ vs) F H :=
  ⟨R.gr, by rw [wipeS_length, wipe_length]; exact R.len, R.t0, R.t1, R.tw, fun i sv e => by
    obtain ⟨h1, h2⟩ := wipeS_some e
    obtain ⟨v, h3, h4⟩ := R.sl i sv h1
    exact ⟨v, by rw [wipe_out h2]; exact h3, h4⟩, R.dj, R.fr, R.ex, R.xt, R.tb, R.kk⟩
theorem Rel.unwiped {vs : List Nat} (R : Rel K G ρ W σ F H) (R' : Rel K G (wipeS ρ vs) W' (wipe σ vs) F' H') (s : Same F F') (ok : wipeOk ρ vs = true) : Rel K G ρ W' σ F' H' :=
  ⟨R'.gr, R.len, R'.t0, R'.t1, R'.tw, fun i sv e => by
    by_cases hi : i ∈ vs
    · obtain ⟨v, h1, h2⟩ := R.sl i sv e
      have hk := List.all_eq_true.mp ok i hi
      rw [e] at hk
      cases sv <;> simp at hk
      exact ⟨v, h1, Dq.mono h2 s⟩
    · obtain ⟨v, h1, h2⟩ := R'.sl i sv (by rw [wipeS_out hi]; exact e)
      exact ⟨v, by rw [wipe_out hi] at h1; exact h1, h2⟩, R'.dj, R'.fr, R'.ex, R.xt, R'.tb, R.kk⟩
theorem Rel.restrict (R : Rel K G ρ' W σ' F H) (hl : ρ.length = σ.length) (h : ∀ (i : Nat) (sv : SV), ρ[i]? = some (some sv) → ρ'[i]? = some (some sv) ∧ σ'[i]? = σ[i]?) : Rel K G ρ W σ F H :=
  ⟨R.gr, hl, R.t0, R.t1, R.tw, fun i sv e => by
    obtain ⟨h1, h2⟩ := h i sv e
    obtain ⟨v, h3, h4⟩ := R.sl i sv h1
    exact ⟨v, by rw [← h2]; exact h3, h4⟩, R.dj, R.fr, R.ex, R.xt, R.tb, R.kk⟩
/-- a thing that none of the state's has is held aside -/
theorem Rel.aside (R : Rel K G ρ W σ F H) (hp : H p = some o) (hF : F p = none) (fr : Fresh G p) (nt : NT o := by first | exact nt_lst | exact nt_dK) : Rel K { G with ext := (p, o) :: G.ext } ρ W σ F H :=
  ⟨R.gr, R.len, R.t0, R.t1, R.tw, R.sl, R.dj, R.fr, fun e he => by
    rcases List.mem_cons.mp he with z | z
    · subst z
      exact ⟨hp, hF, fr.2.2.1, fr.2.1⟩
    · exact R.ex e z, fun e he => by
    rcases List.mem_cons.mp he with z | z
    · subst z; exact nt
    · exact R.xt e z, R.tb, R.kk⟩
theorem Rel.dropExt {e : Addr × HO} (R : Rel K { G with ext := e :: E } ρ W σ F H) : Rel K { G with ext := E } ρ W σ F H :=
  ⟨R.gr, R.len, R.t0, R.t1, R.tw, R.sl, R.dj, R.fr, fun e he => R.ex e (List.mem_cons_of_mem _ he), fun e he => R.xt e (List.mem_cons_of_mem _ he), R.tb, R.kk⟩
theorem Rel.setExt (R : Rel K { G with ext := (p, o) :: E } ρ W σ F H) (hn : ∀ e ∈ E, e.1 ≠ p) (h0 : G.H0 p = none) (nt : NT o := by exact nt_lst) (nt' : NT o' := by exact nt_lst) : Rel K { G with ext := (p, o') :: E } ρ W σ F (upd H p o') := by
  obtain ⟨e1, e2, e3, e4⟩ := R.ex (p, o) (List.mem_cons_self ..)
  simp only at e1 e2 e3 e4
  refine ⟨⟨R.gr.ff, same_mut R.fh e2, R.gr.nw, fun a u e n m => ?_, fun a e => ?_, fun t => (R.gr.tb t).mut e1 nt⟩, R.len, R.t0, R.t1, ?_, fun i sv e => ?_, R.dj, fun i a ha => ?_, fun e he => ?_, fun e he => ?_, R.tb.mut e1 nt, R.kk⟩
  · have : a ≠ p := fun z => by rw [z, h0] at e; cases e
    rw [upd_ne this]; exact R.gr.kp a u e n m
  · by_cases ha : a = p
    · subst ha; rw [upd_same]; exact fun z => nomatch z
    · rw [upd_ne ha]; exact R.gr.th a e
  · have t := R.tw
    revert t
    show TwOk K F H G.T W → TwOk K F (upd H p o') G.T W
    cases hT : G.T <;> cases W <;> intro t
    · trivial
    · exact t
    · exact t
    · obtain ⟨tv, h1, h2, h3⟩ := t
      exact ⟨tv, by rw [upd_ne (fun z => e3 (by rw [← z]; exact hT))]; exact h1, h2, h3⟩
  · obtain ⟨v, h1, h2⟩ := R.sl i sv e
    exact ⟨v, h1, h2.keep (.refl _) fun a u ho _ ha => by rw [upd_ne fun z => e4 i (by rw [← z]; exact ha)]; exact ho⟩
  · obtain ⟨h1, h2, h3, h4⟩ := R.fr i a ha
    exact ⟨h1, by rw [upd_ne fun z => e4 i (by rw [← z]; exact ha)]; exact h2, h3, h4⟩
  · rcases List.mem_cons.mp he with z | z
    · subst z
      exact ⟨upd_same, e2, e3, e4⟩
    · obtain ⟨h1, h2, h3, h4⟩ := R.ex e (List.mem_cons_of_mem _ z)
      exact ⟨by rw [upd_ne (hn e z)]; exact h1, h2, h3, h4⟩
  · rcases List.mem_cons.mp he with z | z
    · subst z; exact nt'
    · exact R.xt e (List.mem_cons_of_mem _ z)
end

/-! ### comprehensions -/
def nox {α : Type} : Res α → Res α
  | .ok a => .ok a
  | _ => .bad
@[simp] theorem nox_ok {α : Type} (a : α) : nox (.ok a) = .ok a := rfl
def cL (g : SG) (c : SB) (e : SE) (ρ0 : Sl) : List Dt → Tw → Res (List Dt × Tw)
  | [], W => .ok ([], W)
  | d :: ds, W => match g d ρ0 with
    | none => .bad
    | some ρ1 => (nox (c ρ1 W)).bind fun p => if p.1 = true then (nox (e ρ1 p.2)).bind fun q => (cL g c e ρ0 ds q.2).bind fun r => .ok (q.1 :: r.1, r.2) else cL g c e ρ0 ds p.2
def lComp (it : SA) (g : SG) (c : SB) (e : SE) (vs : List Nat) : SA := fun ρ W => (it ρ W).bind fun p => if p.1.length ≤ 100000 ∧ wipeOk ρ vs = true then cL g c e (wipeS ρ vs) p.1 p.2 else .bad
def bYes : SB := fun _ W => .ok (true, W)
abbrev X0 : Str → Hp → Prop := fun _ _ => False
theorem cL_cases {g : SG} {c : SB} {e : SE} {ρ0 : Sl} {d : Dt} {ds : List Dt} {W : Tw} {zs : List Dt} {Wf : Tw} (h : cL g c e ρ0 (d :: ds) W = .ok (zs, Wf)) :
    ∃ ρ1 b W1, g d ρ0 = some ρ1 ∧ c ρ1 W = .ok (b, W1) ∧ ((b = false ∧ cL g c e ρ0 ds W1 = .ok (zs, Wf)) ∨ (b = true ∧ ∃ z W2 r, e ρ1 W1 = .ok (z, W2) ∧ cL g c e ρ0 ds W2 = .ok (r, Wf) ∧ zs = z :: r)) := by
  unfold cL at h
  cases hg : g d ρ0 with
  | none => rw [hg] at h; cases h
  | some ρ1 =>
    simp only [hg] at h
    cases hc : c ρ1 W with
    | exc x => rw [hc] at h; cases h
    | bad => rw [hc] at h; cases h
    | ok p =>
      obtain ⟨b, W1⟩ := p
      rw [hc] at h
      simp only [nox_ok, Res.bind_ok] at h
      refine ⟨ρ1, b, W1, rfl, hc, ?_⟩
      cases b with
      | false => exact .inl ⟨rfl, by simpa using h⟩
      | true =>
        simp only [if_true] at h
        cases he : e ρ1 W1 with
        | exc x => rw [he] at h; cases h
        | bad => rw [he] at h; cases h
        | ok q =>
          obtain ⟨z, W2⟩ := q
          rw [he] at h
          simp only [nox_ok, Res.bind_ok] at h
          cases hr : cL g c e ρ0 ds W2 with
          | exc x => rw [hr] at h; cases h
          | bad => rw [hr] at h; cases h
          | ok r =>
            rw [hr] at h
            simp only [Res.bind_ok, Res.ok.injEq, Prod.mk.injEq] at h
            obtain ⟨h1, h2⟩ := h
            exact .inr ⟨rfl, z, W2, r.1, rfl, by rw [hr, ← h2], h1.symm⟩
theorem cL_noexc {g : SG} {c : SB} {e : SE} {ρ0 : Sl} : ∀ {ds : List Dt} {W : Tw} {x : Str}, cL g c e ρ0 ds W ≠ .exc x
  | [], W, x, h => by cases h
  | d :: ds, W, x, h => by
    unfold cL at h
    cases hg : g d ρ0 with
    | none => rw [hg] at h; cases h
    | some ρ1 =>
      simp only [hg] at h
      cases hc : c ρ1 W with
      | exc x => rw [hc] at h; cases h
      | bad => rw [hc] at h; cases h
      | ok p =>
        obtain ⟨b, W1⟩ := p
        rw [hc] at h
        simp only [nox_ok, Res.bind_ok] at h
        cases b with
        | false => exact cL_noexc (by simpa using h)
        | true =>
          simp only [if_true] at h
          cases he : e ρ1 W1 with
          | exc x => rw [he] at h; cases h
          | bad => rw [he] at h; cases h
          | ok q =>
            obtain ⟨z, W2⟩ := q
            rw [he] at h
            simp only [nox_ok, Res.bind_ok] at h
            cases hr : cL g c e ρ0 ds W2 with
            | exc x => exact cL_noexc hr
            | bad => rw [hr] at h; cases h
            | ok r => rw [hr] at h; cases h
section
variable {X : Cx} {XE : Str → Hp → Prop} {it : SA} {g : SG} {c : SB} {e : SE} {is vs : List Nat}
theorem comp_of {D0 : Rl} (hsub : ∀ j ∈ is, j ∈ vs) {σ : L2.St} {H : Hp} {Q : VK} (h : tL X.K XE (lComp it g c e vs) σ H Q) : tLc (tI D0 X.K XE it) (tG D0 X.K is g) (tT X.K X0 c) (tE X.K X0 e) vs σ H Q := by
  obtain ⟨G, ρ, W, F, R, p⟩ := h
  refine ⟨G, ρ, W, F, R, p.of_bind.mono fun ds W1 q J F1 H1 s1 R1 wk D hD => ?_⟩
  obtain ⟨⟨hlen, hok⟩, q⟩ := Pg.of_ite q
  simp only at hlen
  have hcl : ∃ zs Wf, cL g c e (wipeS ρ vs) ds W1 = .ok (zs, Wf) := by
    cases hz : cL g c e (wipeS ρ vs) ds W1 with
    | ok r => exact ⟨r.1, r.2, rfl⟩
    | exc x => exact absurd hz cL_noexc
    | bad => simp only [hz] at q; exact q.elim
  obtain ⟨zs, Wf, hcl⟩ := hcl
  simp only [hcl] at q
  have fr := R1.fresh hD
  have RD : Rel X.K { G with ext := (D, .lst []) :: G.ext } (wipeS ρ vs) W1 (wipe σ vs) F1 (upd H1 D (.lst [])) :=
    ((R1.grow (Gr.newH R1.fh hD)).aside upd_same (R1.fh.free hD) fr).wiped vs
  refine lc_it wk (fun i H2 => ∃ Wi Fi av acc rest, Rel X.K { G with ext := (D, .lst av) :: G.ext } (wipeS ρ vs) Wi (wipe σ vs) Fi H2 ∧ Same F1 Fi ∧ DqAll X.K Fi av acc ∧ cL g c e (wipeS ρ vs) (ds.drop i) Wi = .ok (rest, Wf) ∧ zs = acc ++ rest ∧ acc.length ≤ i)
    ⟨W1, F1, [], [], zs, RD, .refl _, .nil, by rw [List.drop_zero]; exact hcl, rfl, Nat.le_refl _⟩ (fun i H2 _ ⟨Wi, Fi, _, _, _, Ri, si, _⟩ => ⟨Fi, si, Ri.fh⟩) ?_ ?_
  · rintro i x H2 H3 hi ⟨Wi, Fi, av, acc, rest, Ri, si, da, hc, hzs, hal⟩ hy
    obtain ⟨F3, d, hd, gr, hx⟩ := hy Fi si Ri.fh
    have hdrop : ds.drop i = d :: ds.drop (i + 1) := by
      obtain ⟨h1, h2⟩ := List.getElem?_eq_some_iff.mp hd
      rw [List.drop_eq_getElem_cons h1, h2]
    rw [hdrop] at hc
    obtain ⟨ρ1, b, W2, hg, hb, hrest⟩ := cL_cases hc
    have R3 := Ri.grow gr
    refine ⟨_, wipeS ρ vs, Wi, F3, d, ρ1, R3, hx, hg, fun hk σ2 hl hj R4 => ⟨wipe_eq hl hj hsub, _, ρ1, Wi, F3, R4, ?_⟩⟩
    have back : ∀ {W5 : Tw} {F5 H5 : Hp} {av' : List V}, Rel X.K { G with ext := (D, .lst av') :: G.ext } ρ1 W5 σ2 F5 H5 → Rel X.K { G with ext := (D, .lst av') :: G.ext } (wipeS ρ vs) W5 (wipe σ vs) F5 H5 := fun R5 =>
      R5.restrict (by rw [wipeS_length, wipe_length]; exact R.len) fun j sv ej => by
        obtain ⟨_, hjv⟩ := wipeS_some ej
        exact ⟨by rw [hk j fun z => hjv (hsub j z)]; exact ej, hj j fun z => hjv (hsub j z)⟩
    rw [hb]
    intro F4 H4 s4 R5
    rcases hrest with ⟨rfl, hr⟩ | ⟨rfl, z, W3, r, he, hr, hz⟩
    · simp only [Bool.false_eq_true, if_false]
      exact ⟨W2, F4, av, acc, rest, back R5, (si.trans gr.ff).trans s4, da.mono (gr.ff.trans s4), hr, hzs, by omega⟩
    · simp only [if_true]
      refine ⟨_, ρ1, W2, F4, R5, ?_⟩
      rw [he]
      intro v F5 H5 s5 R6 hv
      obtain ⟨x1, x2, x3, x4⟩ := R6.ex (D, .lst av) (List.mem_cons_self ..)
      have sF : Same Fi F5 := (gr.ff.trans s4).trans s5
      have hle : acc.length < 100000 := by omega
      refine ⟨av, x1, Nat.lt_of_lt_of_le (by rw [da.length]; exact hle) (sz5 (Nat.le_refl _)), W3, F5, av ++ [v], acc ++ [z], r, back (R6.setExt fr.2.2.2 fr.1), si.trans sF, (da.mono sF).append (.one hv), hr, ?_, ?_⟩
      · rw [hzs, hz, List.append_assoc]; rfl
      · rw [List.length_append, List.length_singleton]; omega
  · rintro H2 ⟨Wi, Fi, av, acc, rest, Ri, si, da, hc, hzs, hal⟩
    rw [List.drop_length] at hc
    have hc : Res.ok (([] : List Dt), Wi) = .ok (rest, Wf) := hc
    cases hc
    rw [List.append_nil] at hzs
    subst hzs
    obtain ⟨x1, x2, x3, x4⟩ := Ri.ex (D, .lst av) (List.mem_cons_self ..)
    exact q D av Fi H2 (s1.trans si) (R1.unwiped Ri.dropExt si hok) fr x1 x2 da
variable {elt tg iter : Expr} {ifs : List Expr} {scope : Scope} {own : List (Str × Nat)} {pos : Pos}
theorem l_comp {D0 : Rl} (hc : X.calm = true) (hN : X.N.Nodup) (hi : PI X tg iter (tI D0 X.K XE it)) (ok : BlkOk X.N X.env.scope scope own)
    (hg : ∀ (s : Shared) (H : Hp) (C : Addr) (cl : List (Str × Addr)) (fp : List Addr), PG (X.blk s H scope (compEnvC scope cl C X.env) fp) tg (tG D0 X.K is g)) (ht : ∀ (s : Shared) (H : Hp) (C : Addr) (cl : List (Str × Addr)) (fp : List Addr), PTs (X.blk s H scope (compEnvC scope cl C X.env) fp) ifs (tT X.K X0 c))
    (he : ∀ (s : Shared) (H : Hp) (C : Addr) (cl : List (Str × Addr)) (fp : List Addr), PE (X.blk s H scope (compEnvC scope cl C X.env) fp) elt (tE X.K X0 e)) (hsub : ∀ j ∈ is, j ∈ own.map (·.2)) (hs : ∀ x, foldedSetIterable iter X.env x = pure x := by intro _; rfl) :
    PE X (.ListComp elt [⟨tg, iter, ifs, 0⟩] scope pos) (tL X.K XE (lComp it g c e (own.map (·.2)))) := (pe_lc hc hN hi ok hg ht he hs).weak fun _ _ _ => comp_of hsub
theorem t_yes : PTs X [] (tT X.K XE bYes) := ⟨fun pins s σ H Q I ⟨G, ρ, W, F, R, p⟩ => pts_nil.run pins s σ H Q I (p F H (.refl _) R)⟩
theorem t_one {b : Expr} (h : PT X b (tT X.K XE c)) : PTs X [b] (tT X.K XE c) := pts_one h
end
end Sx

namespace Sx
open PySem PySem.Spec PyProof.Rows L2

/-! ### statements -/
inductive Out where
  | nx (ρ : Sl) (W : Tw) | rt (r : SV) (W : Tw) | rs (r : SV) (ρ : Sl) (W : Tw) | exc (c : Str) | bad
abbrev SS := Sl → Tw → Out
structure SameB (G G' : Gh) : Prop where
  T0 : G'.T0 = G.T0
  F0 : G'.F0 = G.F0
  H0 : G'.H0 = G.H0
  ext : G'.ext = G.ext
  K : G'.K = G.K
theorem SameB.refl (G : Gh) : SameB G G := ⟨rfl, rfl, rfl, rfl, rfl⟩
theorem SameB.trans {A B C : Gh} (a : SameB A B) (b : SameB B C) : SameB A C := ⟨b.T0.trans a.T0, b.F0.trans a.F0, b.H0.trans a.H0, b.ext.trans a.ext, b.K.trans a.K⟩
def RV (K : PySem.W.Frag) (G : Gh) (F H : Hp) (v : V) : SV → Prop
  | .d x => Dq K F v x
  | .own xs => ∃ p vs, v = .ref p ∧ G.H0 p = none ∧ H p = some (.lst vs) ∧ F p = none ∧ DqAll K F vs xs
  | .se L D U => ∃ a p q, v = .ref a ∧ (G.H0 a = none ∧ G.H0 p = none ∧ G.H0 q = none) ∧ (F a = none ∧ F p = none ∧ F q = none) ∧ SesAt K F H a p q L D U
  | _ => False
def Po (K : PySem.W.Frag) (XE : Str → Hp → Prop) (G : Gh) (F : Hp) (r : Out) (D : Ends) : Prop := match r with
  | .nx ρ' W' => ∀ G' σ' F' H', SameB G G' → Same F F' → Rel K G' ρ' W' σ' F' H' → D.nx σ' H'
  | .rt r W' => ∀ G' ρ' σ' v F' H', SameB G G' → Same F F' → Rel K G' ρ' W' σ' F' H' → RV K G' F' H' v r → D.rt v H'
  | .rs r ρ' W' => ∀ G' σ' v F' H', SameB G G' → Same F F' → Rel K G' ρ' W' σ' F' H' → RV K G' F' H' v r → D.rt v H'
  | .exc c => ∀ F' H', Gr G.K G.tm G.F0 G.H0 F' H' → XE c H'
  | .bad => False
def tS (K : PySem.W.Frag) (XE : Str → Hp → Prop) (f : SS) : TS := fun D σ H => ∃ G ρ W F, Rel K G ρ W σ F H ∧ Po K XE G F (f ρ W) D
theorem Po.shift {K : PySem.W.Frag} {XE : Str → Hp → Prop} {G G' : Gh} {F F' : Hp} {r : Out} {D : Ends} (h : Po K XE G F r D) (b : SameB G G') (s : Same F F') : Po K XE G' F' r D := by
  cases r with
  | nx ρ W => exact fun G2 σ2 F2 H2 b2 s2 R2 => h G2 σ2 F2 H2 (b.trans b2) (s.trans s2) R2
  | rt r W => exact fun G2 ρ2 σ2 v F2 H2 b2 s2 R2 => h G2 ρ2 σ2 v F2 H2 (b.trans b2) (s.trans s2) R2
  | rs r ρ W => exact fun G2 σ2 v F2 H2 b2 s2 R2 => h G2 σ2 v F2 H2 (b.trans b2) (s.trans s2) R2
  | exc c => exact fun F2 H2 g => h F2 H2 (by
      unfold Gh.tm at g ⊢
      rw [b.T0, b.F0, b.H0, b.K] at g
      exact g)
  | bad => exact h
def rOut {α : Type} (r : Res (α × Tw)) (k : α → Tw → Out) : Out := match r with
  | .ok p => k p.1 p.2
  | .exc c => .exc c
  | .bad => .bad
@[simp] theorem rOut_ok {α : Type} (p : α × Tw) (k : α → Tw → Out) : rOut (.ok p) k = k p.1 p.2 := rfl
theorem Po.of_rOut {α : Type} {K : PySem.W.Frag} {XE : Str → Hp → Prop} {G : Gh} {F : Hp} {r : Res (α × Tw)} {k : α → Tw → Out} {D : Ends} (h : Po K XE G F (rOut r k) D) : Pg XE G r fun a W' => Po K XE G F (k a W') D := by
  cases r with
  | ok p => exact h
  | exc c => exact h
  | bad => exact h
theorem Po.of_ite {K : PySem.W.Frag} {XE : Str → Hp → Prop} {G : Gh} {F : Hp} {c : Prop} [Decidable c] {r : Out} {D : Ends} (h : Po K XE G F (if c then r else .bad) D) : c ∧ Po K XE G F r D := by
  by_cases hc : c
  · rw [if_pos hc] at h; exact ⟨hc, h⟩
  · rw [if_neg hc] at h; exact h.elim
def sPass : SS := fun ρ W => .nx ρ W
def sSeq (a b : SS) : SS := fun ρ W => match a ρ W with
  | .nx ρ1 W1 => b ρ1 W1
  | r => r
def sNever : SS := fun _ _ => .bad
def sExpr (e : SE) : SS := fun ρ W => rOut (e ρ W) fun _ W1 => .nx ρ W1
def sRet (e : SE) : SS := fun ρ W => rOut (e ρ W) fun d W1 => .rt (.d d) W1
def sRetL (f : SA) : SS := fun ρ W => rOut (f ρ W) fun ds W1 => .rt (.own ds) W1
def sRetO (i : Nat) : SS := fun ρ W => match ρ[i]? with
  | some (some (.own xs)) => .rt (.own xs) W
  | _ => .bad
def sAsg (i : Nat) (e : SE) : SS := fun ρ W => rOut (e ρ W) fun d W1 => if i < ρ.length then .nx (ρ.set i (some (.d d))) W1 else .bad
def sAsgG (g : SG) (e : SE) : SS := fun ρ W => rOut (e ρ W) fun d W1 => match g d ρ with
  | some ρ' => .nx ρ' W1
  | none => .bad
def sOwn (i : Nat) (f : SA) : SS := fun ρ W => rOut (f ρ W) fun ds W1 => if i < ρ.length then .nx (ρ.set i (some (.own ds))) W1 else .bad
def sTown (i : Nat) (f : SA) : SS := fun ρ W => rOut (f ρ W) fun ds W1 => if i < ρ.length ∧ W1 = none then .nx (ρ.set i (some .town)) (some ds) else .bad
def sIf (c : SB) (a b : SS) : SS := fun ρ W => rOut (c ρ W) fun k W1 => if k = true then a ρ W1 else b ρ W1
def fL (g : SG) (body : SS) : List Dt → Sl → Tw → Out
  | [], ρ, W => .nx ρ W
  | d :: ds, ρ, W => match g d ρ with
    | none => .bad
    | some ρ1 => match body ρ1 W with
      | .nx ρ2 W2 => fL g body ds ρ2 W2
      | r => r
def sFor (it : SA) (g : SG) (body : SS) : SS := fun ρ W => rOut (it ρ W) fun ds W1 => fL g body ds ρ W1
def wL (c : SB) (body : SS) : Nat → Sl → Tw → Out
  | 0, _, _ => .bad
  | n + 1, ρ, W => rOut (c ρ W) fun k W1 => if k = true then (match body ρ W1 with
    | .nx ρ2 W2 => wL c body n ρ2 W2
    | r => r) else .nx ρ W1
def sWhile (fuel : Sl → Nat) (c : SB) (body : SS) : SS := fun ρ W => wL c body (fuel ρ) ρ W
def sApp (i : Nat) (e : SE) : SS := fun ρ W => match ρ[i]? with
  | some (some (.own xs)) => rOut (e ρ W) fun d W1 => if xs.length < 100000 then .nx (ρ.set i (some (.own (xs ++ [d])))) W1 else .bad
  | _ => .bad
def sExt (i : Nat) (f : SA) : SS := fun ρ W => match ρ[i]? with
  | some (some (.own xs)) => rOut (f ρ W) fun ds W1 => if xs.length + ds.length ≤ 100000 then .nx (ρ.set i (some (.own (xs ++ ds)))) W1 else .bad
  | _ => .bad
def setD (xs : List Dt) (k d : Dt) : Option (List Dt) := match k with
  | .int k => (ixN xs.length k).map fun j => xs.set j d
  | _ => none
def nxO (i : Nat) (o : Option (List Dt)) (ρ : Sl) (W : Tw) : Out := match o with
  | some ys => .nx (ρ.set i (some (.own ys))) W
  | none => .bad
def nxT (o : Option (List Dt)) (ρ : Sl) : Out := match o with
  | some ys => .nx ρ (some ys)
  | none => .bad
def sSet (i : Nat) (k e : SE) : SS := fun ρ W => match ρ[i]? with
  | some (some (.own xs)) => rOut (e ρ W) fun d W1 => rOut (k ρ W1) fun kd W2 => nxO i (setD xs kd d) ρ W2
  | _ => .bad
def sSetT (i : Nat) (k e : SE) : SS := fun ρ W => match ρ[i]? with
  | some (some .town) => rOut (e ρ W) fun d W1 => rOut (k ρ W1) fun kd W2 => match W2 with
    | some ws => nxT (setD ws kd d) ρ
    | none => .bad
  | _ => .bad
def eIxT (i : Nat) (k : SE) : SE := fun ρ W => match ρ[i]? with
  | some (some .town) => (k ρ W).bind fun p => match p.2 with
    | some ws => ofO (ixD (.list ws) p.1) p.2
    | none => .bad
  | _ => .bad
def frzS (i : Nat) (ρ : Sl) : Sl := match ρ[i]? with
  | some (some (.own xs)) => ρ.set i (some (.d (.list xs)))
  | _ => ρ
section
variable {K : PySem.W.Frag} {G : Gh} {ρ : Sl} {W : Tw} {σ : L2.St} {F H : Hp}
def Gh.own (G : Gh) (i : Nat) (p : Addr) : Gh := { G with fp := fun j => if j = i then [p] else G.fp j }
theorem Gh.own_same (G : Gh) (i : Nat) (p : Addr) : SameB G (G.own i p) := ⟨rfl, rfl, rfl, rfl, rfl⟩
/-- a new thing becomes slot i's own -/
theorem Rel.takeSv {i : Nat} {p : Addr} {o : HO} {sv : SV} (R : Rel K G ρ W σ F H) (hi : i < ρ.length) (fr : Fresh G p) (hp : H p = some o) (hF : F p = none) (hsv : SlOk K G.T F H (.ref p) [p] sv) :
    Rel K (G.own i p) (ρ.set i (some sv)) W (σ.set i (some (.ref p))) F H := by
  obtain ⟨f1, f2, f3, f4⟩ := fr
  have hne : ∀ j a, a ∈ (G.own i p).fp j → (j = i ∧ a = p) ∨ (j ≠ i ∧ a ∈ G.fp j) := fun j a ha => by
    unfold Gh.own at ha
    simp only at ha
    by_cases hj : j = i
    · rw [if_pos hj] at ha; exact .inl ⟨hj, List.mem_singleton.mp ha⟩
    · rw [if_neg hj] at ha; exact .inr ⟨hj, ha⟩
  refine ⟨R.gr, by rw [List.length_set, List.length_set]; exact R.len, R.t0, R.t1, R.tw, fun j sv e => ?_, fun j k a ha hb => ?_, fun j a ha => ?_, fun e he => ?_, R.xt, R.tb, R.kk⟩
  · by_cases hj : i = j
    · subst hj
      rw [List.getElem?_set_self hi] at e
      cases e
      exact ⟨.ref p, List.getElem?_set_self (by rw [← R.len]; exact hi), by unfold Gh.own; simp only [if_true]; exact hsv⟩
    · rw [List.getElem?_set_ne hj] at e ⊢
      obtain ⟨v, h1, h2⟩ := R.sl j sv e
      exact ⟨v, h1, by unfold Gh.own; simp only [if_neg (Ne.symm hj)]; exact h2⟩
  · rcases hne j a ha with ⟨h1, h2⟩ | ⟨h1, h2⟩ <;> rcases hne k a hb with ⟨h3, h4⟩ | ⟨h3, h4⟩
    · rw [h1, h3]
    · rw [h2] at h4; exact absurd h4 (f2 k)
    · rw [h4] at h2; exact absurd h2 (f2 j)
    · exact R.dj j k a h2 h4
  · rcases hne j a ha with ⟨h1, h2⟩ | ⟨h1, h2⟩
    · rw [h2]
      have hpn : H p ≠ none := by
        rw [hp]
        exact fun z => nomatch z
      exact ⟨hF, hpn, f1, f3⟩
    · exact R.fr j a h2
  · obtain ⟨h1, h2, h3, h4⟩ := R.ex e he
    refine ⟨h1, h2, h3, fun j hj => ?_⟩
    rcases hne j _ hj with ⟨_, q⟩ | ⟨_, q⟩
    · exact f4 e he q
    · exact h4 j q
theorem Rel.takeOwn {i : Nat} {p : Addr} {vs : List V} {xs : List Dt} (R : Rel K G ρ W σ F H) (hi : i < ρ.length) (fr : Fresh G p) (hp : H p = some (.lst vs)) (hF : F p = none) (hd : DqAll K F vs xs) :
    Rel K (G.own i p) (ρ.set i (some (.own xs))) W (σ.set i (some (.ref p))) F H := R.takeSv hi fr hp hF ⟨p, vs, rfl, rfl, hp, hd⟩
/-- slot i's own list is changed -/
theorem Rel.mutOwn {i : Nat} {p : Addr} {xs ys : List Dt} {us : List V} (R : Rel K G ρ W σ F H) (hs : ρ[i]? = some (some (.own xs))) (hσ : σ[i]? = some (some (.ref p))) (hd : DqAll K F us ys) :
    Rel K G (ρ.set i (some (.own ys))) W σ F (upd H p (.lst us)) := by
  obtain ⟨v, h1, p', vs, h2, h3, h4, h5⟩ := R.sl i _ hs
  rw [hσ] at h1
  cases h1
  cases h2
  have hi : i < ρ.length := (List.getElem?_eq_some_iff.mp hs).1
  have hm : p ∈ G.fp i := by rw [h3]; simp
  obtain ⟨q1, q2, q3, q4⟩ := R.fr i p hm
  refine ⟨⟨R.gr.ff, same_mut R.fh q1, R.gr.nw, fun a u e n m => ?_, fun a e => ?_, fun t => (R.gr.tb t).mut h4 nt_lst⟩, by rw [List.length_set]; exact R.len, R.t0, R.t1, ?_, fun j sv e => ?_, R.dj, fun j a ha => ?_, fun e he => ?_, R.xt, R.tb.mut h4 nt_lst, R.kk⟩
  · rw [upd_ne (fun z => by rw [z, q3] at e; cases e)]
    exact R.gr.kp a u e n m
  · by_cases ha : a = p
    · subst ha; rw [upd_same]; exact fun z => nomatch z
    · rw [upd_ne ha]; exact R.gr.th a e
  · have t := R.tw
    revert t
    cases hT : G.T <;> cases W <;> intro t
    · trivial
    · exact t
    · exact t
    · obtain ⟨tv, h1, h2, h3⟩ := t
      exact ⟨tv, by rw [upd_ne (fun z => q4 (by rw [hT, z]))]; exact h1, h2, h3⟩
  · by_cases hj : i = j
    · subst hj
      rw [List.getElem?_set_self hi] at e
      cases e
      exact ⟨.ref p, hσ, p, us, rfl, h3, upd_same, hd⟩
    · rw [List.getElem?_set_ne hj] at e
      obtain ⟨v, h1, h2⟩ := R.sl j sv e
      exact ⟨v, h1, h2.keep (.refl _) fun a o ho _ ha => by rw [upd_ne fun z => hj (R.dj i j p hm (by rw [← z]; exact ha))]; exact ho⟩
  · obtain ⟨h1, h2, h3, h4⟩ := R.fr j a ha
    refine ⟨h1, ?_, h3, h4⟩
    by_cases hz : a = p
    · subst hz; rw [upd_same]; exact fun z => nomatch z
    · rw [upd_ne hz]; exact h2
  · obtain ⟨h1, h2, h3, h4⟩ := R.ex e he
    exact ⟨by rw [upd_ne (fun z => h4 i (by rw [z]; exact hm))]; exact h1, h2, h3, h4⟩
/-- slot i's own list is told to all -/
theorem Rel.frz (R : Rel K G ρ W σ F H) (i : Nat) : ∃ G' F', SameB G G' ∧ Same F F' ∧ Rel K G' (frzS i ρ) W σ F' H := by
  unfold frzS
  split
  · rename_i xs hs
    obtain ⟨v, h1, p, vs, rfl, h3, h4, h5⟩ := R.sl i _ hs
    have hi : i < ρ.length := (List.getElem?_eq_some_iff.mp hs).1
    have hm : p ∈ G.fp i := by rw [h3]; simp
    obtain ⟨q1, q2, q3, q4⟩ := R.fr i p hm
    have sF : Same F (upd F p (.lst vs)) := same_new q1
    refine ⟨{ G with fp := fun j => if j = i then [] else G.fp j }, upd F p (.lst vs), ⟨rfl, rfl, rfl, rfl, rfl⟩, sF, ⟨⟨R.gr.ff.trans sF, fun a u e => ?_, fun a e => ?_, R.gr.kp, R.gr.th, fun t => (R.gr.tb t).ff q1 h4 nt_lst⟩, by rw [List.length_set]; exact R.len, R.t0, R.t1, ?_, fun j sv e => ?_, fun j k a ha hb => ?_, fun j a ha => ?_, fun e he => ?_, R.xt, R.tb.ff q1 h4 nt_lst, R.kk⟩⟩
    · by_cases ha : a = p
      · subst ha; rw [upd_same] at e; cases e; exact h4
      · rw [upd_ne ha] at e; exact R.fh a u e
    · by_cases ha : a = p
      · subst ha; exact .inr q3
      · rw [upd_ne ha] at e; exact R.gr.nw a e
    · have t := R.tw
      revert t
      show TwOk K F H G.T W → TwOk K (upd F p (.lst vs)) H G.T W
      cases hT : G.T <;> cases W <;> intro t
      · trivial
      · exact t
      · exact t
      · obtain ⟨tv, t1, t2, t3⟩ := t
        exact ⟨tv, t1, by rw [upd_ne (fun z => q4 (by rw [hT, z]))]; exact t2, t3.mono sF⟩
    · by_cases hj : i = j
      · subst hj
        rw [List.getElem?_set_self hi] at e
        cases e
        exact ⟨.ref p, h1, .lst (.inl (.inl upd_same)) (h5.mono sF)⟩
      · rw [List.getElem?_set_ne hj] at e
        obtain ⟨v, e1, e2⟩ := R.sl j sv e
        refine ⟨v, e1, ?_⟩
        simp only [if_neg (Ne.symm hj)]
        exact e2.keep sF fun _ _ e _ _ => e
    · simp only at ha hb
      by_cases hj : j = i
      · rw [if_pos hj] at ha; cases ha
      · by_cases hk : k = i
        · rw [if_pos hk] at hb; cases hb
        · rw [if_neg hj] at ha; rw [if_neg hk] at hb; exact R.dj j k a ha hb
    · simp only at ha
      by_cases hj : j = i
      · rw [if_pos hj] at ha; cases ha
      · rw [if_neg hj] at ha
        obtain ⟨e1, e2, e3, e4⟩ := R.fr j a ha
        exact ⟨by rw [upd_ne (fun z => hj (R.dj j i p (by rw [← z]; exact ha) hm))]; exact e1, e2, e3, e4⟩
    · obtain ⟨e1, e2, e3, e4⟩ := R.ex e he
      refine ⟨e1, by rw [upd_ne (fun z => e4 i (by rw [z]; exact hm))]; exact e2, e3, fun j hj => ?_⟩
      simp only at hj
      by_cases hk : j = i
      · rw [if_pos hk] at hj; cases hj
      · rw [if_neg hk] at hj; exact e4 j hj
  · exact ⟨G, F, .refl G, .refl F, R⟩
end
section
variable {X : Cx} {XE : Str → Hp → Prop} {st : Stmt} {sts : List Stmt} {fa fb : SS} {e a b : Expr} {fe fk : SE} {fl : SA} {bc : SB} {pos : Pos}
theorem s_nil : PSs X [] (tS X.K XE sPass) := pss_nil.weak fun D σ H ⟨G, ρ, W, F, R, p⟩ => p G σ F H (.refl _) (.refl _) R
theorem s_one (h : PS X st (tS X.K XE fa)) : PSs X [st] (tS X.K XE fa) := pss_one h
theorem s_cons (h1 : PS X st (tS X.K XE fa)) (h2 : PSs X sts (tS X.K XE fb)) : PSs X (st :: sts) (tS X.K XE (sSeq fa fb)) := by
  refine (pss_cons h1 h2).weak fun D σ H ⟨G, ρ, W, F, R, p⟩ => ⟨G, ρ, W, F, R, ?_⟩
  unfold sSeq at p
  cases hf : fa ρ W with
  | nx ρ1 W1 =>
    rw [hf] at p
    exact fun G1 σ1 F1 H1 b1 s1 R1 => ⟨G1, ρ1, W1, F1, R1, p.shift b1 s1⟩
  | rt r W1 => rw [hf] at p; exact p
  | rs r ρ1 W1 => rw [hf] at p; exact p
  | exc c => rw [hf] at p; exact p
  | bad => rw [hf] at p; exact p
theorem s_never : PS X st (tS X.K XE sNever) := ps_never.weak fun D σ H ⟨G, ρ, W, F, R, p⟩ => p
theorem s_frz (i : Nat) (h : PS X st (tS X.K XE fa)) : PS X st (tS X.K XE (fun ρ W => fa (frzS i ρ) W)) := by
  refine h.weak fun D σ H ⟨G, ρ, W, F, R, p⟩ => ?_
  obtain ⟨G', F', b, s, R'⟩ := R.frz i
  exact ⟨G', frzS i ρ, W, F', R', p.shift b s⟩
theorem s_expr (he : PE X e (tE X.K XE fe)) (hs : swapsWith e none pos.line X.env = pure false := by rfl) : PS X (.Expr e pos) (tS X.K XE (sExpr fe)) :=
  (ps_expr he hs).weak fun D σ H ⟨G, ρ, W, F, R, p⟩ => ⟨G, ρ, W, F, R, p.of_rOut.mono fun d W1 q v F1 H1 s1 R1 hv => q G σ F1 H1 (.refl _) s1 R1⟩
theorem s_ret (he : PE X e (tE X.K XE fe)) : PS X (.Return (some e) pos) (tS X.K XE (sRet fe)) :=
  (ps_ret he).weak fun D σ H ⟨G, ρ, W, F, R, p⟩ => ⟨G, ρ, W, F, R, p.of_rOut.mono fun d W1 q v F1 H1 s1 R1 hv => q G ρ σ v F1 H1 (.refl _) s1 R1 hv⟩
theorem s_retL (he : PE X e (tL X.K XE fl)) : PS X (.Return (some e) pos) (tS X.K XE (sRetL fl)) :=
  (ps_ret he).weak fun D σ H ⟨G, ρ, W, F, R, p⟩ => ⟨G, ρ, W, F, R, p.of_rOut.mono fun ds W1 q np vs F1 H1 s1 R1 fr hp hF hv => q G ρ σ _ F1 H1 (.refl _) s1 R1 ⟨np, vs, rfl, fr.1, hp, hF, hv⟩⟩
theorem s_asg {i : Nat} (h : PS X st (tAsg (tE X.K XE fe) (gName i))) : PS X st (tS X.K XE (sAsg i fe)) :=
  h.weak fun D σ H ⟨G, ρ, W, F, R, p⟩ => ⟨G, ρ, W, F, R, p.of_rOut.mono fun d W1 q v F1 H1 s1 R1 hv => by
    obtain ⟨hi, q⟩ := Po.of_ite q
    exact q G _ F1 H1 (.refl _) s1 (R1.setD hi hv)⟩
theorem s_asgG {is : List Nat} {g : SG} (h : PS X st (tAsg (tE X.K XE fe) (tG Dq X.K is g))) : PS X st (tS X.K XE (sAsgG g fe)) :=
  h.weak fun D σ H ⟨G, ρ, W, F, R, p⟩ => ⟨G, ρ, W, F, R, p.of_rOut.mono fun d W1 q v F1 H1 s1 R1 hv => by
    split at q
    · rename_i ρ' hg
      exact ⟨G, ρ, W1, F1, d, ρ', R1, hv, hg, fun _ σ' _ _ R2 => q G σ' F1 H1 (.refl _) s1 R2⟩
    · exact q.elim⟩
theorem s_own {i : Nat} (h : PS X st (tAsg (tL X.K XE fl) (gName i))) : PS X st (tS X.K XE (sOwn i fl)) :=
  h.weak fun D σ H ⟨G, ρ, W, F, R, p⟩ => ⟨G, ρ, W, F, R, p.of_rOut.mono fun ds W1 q np vs F1 H1 s1 R1 fr hp hF hv => by
    obtain ⟨hi, q⟩ := Po.of_ite q
    exact q _ _ F1 H1 (G.own_same i np) s1 (R1.takeOwn hi fr hp hF hv)⟩
theorem s_town {i : Nat} (h : PS X st (tAsg (tL X.K XE fl) (gName i))) : PS X st (tS X.K XE (sTown i fl)) :=
  h.weak fun D σ H ⟨G, ρ, W, F, R, p⟩ => ⟨G, ρ, W, F, R, p.of_rOut.mono fun ds W1 q np vs F1 H1 s1 R1 fr hp hF hv => by
    obtain ⟨⟨hi, hW⟩, q'⟩ := Po.of_ite q
    clear q
    have q := q'
    clear q'
    subst hW
    obtain ⟨f1, f2, f3, f4⟩ := fr
    have hT : G.T = none := by
      have t := R1.tw
      cases hT : G.T with
      | none => rfl
      | some t' => rw [hT] at t; exact t.elim
    have hT0 : G.T0 = none := by
      cases h0 : G.T0 with
      | none => rfl
      | some t => rw [R1.t0 t h0] at hT; cases hT
    refine q { G with T := some np } _ F1 H1 ⟨rfl, rfl, rfl, rfl, rfl⟩ s1 ⟨R1.gr, by rw [List.length_set, List.length_set]; exact R1.len, fun t ht => (by rw [hT0] at ht; cases ht), fun t ht => (by cases ht; exact .inr f1), ⟨vs, hp, hF, hv⟩, fun j sv e => ?_, R1.dj, fun j a ha => ?_, fun e he => ?_, R1.xt, R1.tb, R1.kk⟩
    · by_cases hj : i = j
      · subst hj
        rw [List.getElem?_set_self hi] at e
        cases e
        exact ⟨.ref np, List.getElem?_set_self (by rw [← R1.len]; exact hi), np, rfl, rfl⟩
      · rw [List.getElem?_set_ne hj] at e ⊢
        obtain ⟨v, h1, h2⟩ := R1.sl j sv e
        refine ⟨v, h1, ?_⟩
        cases sv with
        | town => obtain ⟨t, h3, _⟩ := h2; rw [hT] at h3; cases h3
        | _ => exact h2
    · obtain ⟨e1, e2, e3, e4⟩ := R1.fr j a ha
      exact ⟨e1, e2, e3, fun z => f2 j (by cases z; exact ha)⟩
    · obtain ⟨e1, e2, e3, e4⟩ := R1.ex e he
      exact ⟨e1, e2, fun z => f4 e he (by cases z; rfl), e4⟩⟩
theorem s_if {c : Expr} {as bs : List Stmt} (hc : PT X c (tT X.K XE bc)) (ha : PSs X as (tS X.K XE fa)) (hb : PSs X bs (tS X.K XE fb)) : PS X (.If c as bs pos) (tS X.K XE (sIf bc fa fb)) :=
  (ps_if hc ha hb).weak fun D σ H ⟨G, ρ, W, F, R, p⟩ => ⟨G, ρ, W, F, R, p.of_rOut.mono fun k W1 q F1 H1 s1 R1 => by
    cases k with
    | true => exact ⟨G, ρ, W1, F1, R1, Po.shift q (.refl _) s1⟩
    | false => exact ⟨G, ρ, W1, F1, R1, Po.shift q (.refl _) s1⟩⟩
theorem s_for {D0 : Rl} {tg iter : Expr} {body : List Stmt} {is : List Nat} {g : SG} (hp : PassesOwn (model X.prog X.w) X.A X.env X.xe) (hc : X.calm = true) (hi : PI X tg iter (tI D0 X.K XE fl)) (hg : PG X tg (tG D0 X.K is g)) (hb : PSs X body (tS X.K XE fb))
    (hs : ∀ x, foldedSetIterable iter X.env x = pure x := by intro _; rfl) : PS X (.For tg iter body [] pos) (tS X.K XE (sFor fl g fb)) := by
  refine (ps_for hp hc hi hg hb hs).weak fun D σ H ⟨G, ρ, W, F, R, p⟩ => ⟨G, ρ, W, F, R, p.of_rOut.mono fun ds W1 q J F1 H1 s1 R1 wk => ?_⟩
  refine for_it wk (fun i σ' H' => ∃ G' ρ' W' F', SameB G G' ∧ Same F1 F' ∧ Rel X.K G' ρ' W' σ' F' H' ∧ Po X.K XE G' F' (fL g fb (ds.drop i) ρ' W') D) ⟨G, ρ, W1, F1, .refl _, .refl _, R1, Po.shift (by rw [List.drop_zero]; exact q) (.refl _) s1⟩ (fun i σ' H' _ ⟨G', ρ', W', F', _, si, Ri, _⟩ => ⟨F', si, Ri.fh⟩) ?_ ?_
  · rintro i x σ' H' H3 hi ⟨G', ρ', W', F', bi, si, Ri, po⟩ hy
    obtain ⟨F3, d, hd, gr, hx⟩ := hy F' si Ri.fh
    have hdrop : ds.drop i = d :: ds.drop (i + 1) := by
      obtain ⟨h1, h2⟩ := List.getElem?_eq_some_iff.mp hd
      rw [List.drop_eq_getElem_cons h1, h2]
    rw [hdrop] at po
    unfold fL at po
    cases hgd : g d ρ' with
    | none => simp only [hgd] at po; exact po.elim
    | some ρ1 =>
      simp only [hgd] at po
      refine ⟨G', ρ', W', F3, d, ρ1, Ri.grow gr, hx, hgd, fun _ σ2 _ _ R4 => ⟨G', ρ1, W', F3, R4, ?_⟩⟩
      cases hf : fb ρ1 W' with
      | nx ρ2 W2 =>
        simp only [hf] at po
        exact fun G2 σ3 F4 H4 b4 s4 R5 => ⟨G2, ρ2, W2, F4, bi.trans b4, (si.trans gr.ff).trans s4, R5, po.shift b4 (gr.ff.trans s4)⟩
      | rt r W2 =>
        simp only [hf] at po
        exact fun G2 ρ2 σ3 v F4 H4 b4 s4 R5 hv => po G2 ρ2 σ3 v F4 H4 b4 (gr.ff.trans s4) R5 hv
      | rs r ρ2 W2 =>
        simp only [hf] at po
        exact fun G2 σ3 v F4 H4 b4 s4 R5 hv => po G2 σ3 v F4 H4 b4 (gr.ff.trans s4) R5 hv
      | exc c => simp only [hf] at po; exact po
      | bad => simp only [hf] at po; exact po.elim
  · rintro σ' H' ⟨G', ρ', W', F', bi, si, Ri, po⟩
    rw [List.drop_length] at po
    exact po G' σ' F' H' (.refl _) (.refl _) Ri
theorem s_while {c : Expr} {body : List Stmt} {fuel : Sl → Nat} (hp : PassesOwn (model X.prog X.w) X.A X.env X.xe) (hc : PT X c (tT X.K XE bc)) (hb : PSs X body (tS X.K XE fb)) : PS X (.While c body [] pos) (tS X.K XE (sWhile fuel bc fb)) := by
  refine (ps_while hp hc hb).weak fun D σ H ⟨G, ρ, W, F, R, p⟩ => ⟨fun m σ' H' => ∃ G' ρ' W' F', Rel X.K G' ρ' W' σ' F' H' ∧ Po X.K XE G' F' (wL bc fb m ρ' W') D, ⟨fuel ρ, G, ρ, W, F, R, p⟩, ?_⟩
  rintro m σ' H' ⟨G', ρ', W', F', Ri, po⟩
  cases m with
  | zero => exact po.elim
  | succ m =>
    unfold wL at po
    refine ⟨G', ρ', W', F', Ri, po.of_rOut.mono fun k W1 q F1 H1 s1 R1 => ?_⟩
    cases k with
    | true =>
      simp only [if_true] at q
      refine ⟨fun σ2 H2 => ∃ G2 ρ2 W2 F2, Rel X.K G2 ρ2 W2 σ2 F2 H2 ∧ Po X.K XE G2 F2 (wL bc fb m ρ2 W2) D, fun σ2 H2 z => ⟨m, Nat.lt_succ_self m, z⟩, G', ρ', W1, F1, R1, ?_⟩
      cases hf : fb ρ' W1 with
      | nx ρ2 W2 =>
        simp only [hf] at q
        exact fun G2 σ3 F4 H4 b4 s4 R5 => ⟨G2, ρ2, W2, F4, R5, q.shift b4 (s1.trans s4)⟩
      | rt r W2 =>
        simp only [hf] at q
        exact fun G2 ρ2 σ3 v F4 H4 b4 s4 R5 hv => q G2 ρ2 σ3 v F4 H4 b4 (s1.trans s4) R5 hv
      | rs r ρ2 W2 =>
        simp only [hf] at q
        exact fun G2 σ3 v F4 H4 b4 s4 R5 hv => q G2 σ3 v F4 H4 b4 (s1.trans s4) R5 hv
      | exc c => simp only [hf] at q; exact q
      | bad => simp only [hf] at q; exact q.elim
    | false =>
      simp only [Bool.false_eq_true, if_false] at q ⊢
      exact q G' σ' F1 H1 (.refl _) s1 R1
end
end Sx

namespace Sx
open PySem PySem.Spec PyProof.Rows L2
theorem setD_all {K : PySem.W.Frag} {F : Hp} {vs : List V} {xs ys : List Dt} {v : V} {k d : Dt} (h : setD xs k d = some ys) (ha : DqAll K F vs xs) (hv : Dq K F v d) : ∃ (n : Int) (j : Nat), k = .int n ∧ ixN vs.length n = some j ∧ DqAll K F (vs.set j v) ys := by
  cases k <;> simp only [setD] at h <;> try (cases h; done)
  rename_i n
  cases hj : ixN xs.length n with
  | none => rw [hj] at h; cases h
  | some j =>
    rw [hj] at h
    cases h
    exact ⟨n, j, rfl, by rw [ha.length]; exact hj, ha.set j hv⟩
section
variable {X : Cx} {XE : Str → Hp → Prop} {st : Stmt} {e a b : Expr} {fe fk : SE} {fl : SA} {pos : Pos} {i : Nat}
/-- x.append(e) -/
theorem s_app (h : PS X st (tDrop (tBM X.K "list" rAppend (tVar i) (tCons (tE X.K XE fe) tNil)))) : PS X st (tS X.K XE (sApp i fe)) := by
  refine h.weak fun D σ H ⟨G, ρ, W, F, R, p⟩ => ?_
  unfold sApp at p
  split at p
  · rename_i xs hs
    obtain ⟨v, h1, np, vs, rfl, h3, h4, h5⟩ := R.sl i _ hs
    refine ⟨_, h1, .inl ⟨rfl, _, SqL.of h4⟩, G, ρ, W, F, R, p.of_rOut.mono fun d W1 q v F1 H1 s1 R1 hv => ?_⟩
    obtain ⟨hl, q⟩ := Po.of_ite q
    obtain ⟨v', h1', np', vs', e1, h3', h4', h5'⟩ := R1.sl i _ hs
    rw [h1] at h1'
    cases h1'
    cases e1
    refine ⟨np, vs', v, rfl, rfl, h4', Nat.lt_of_lt_of_le (by rw [h5'.length]; exact hl) (sz5 (Nat.le_refl _)), ?_⟩
    exact q G σ F1 _ (.refl _) s1 (R1.mutOwn hs h1 (h5'.append (.one hv)))
  · exact p.elim
/-- x.extend([..]) -/
theorem s_ext (h : PS X st (tDrop (tBM X.K "list" rExtend (tVar i) (tCons (tL X.K XE fl) tNil)))) : PS X st (tS X.K XE (sExt i fl)) := by
  refine h.weak fun D σ H ⟨G, ρ, W, F, R, p⟩ => ?_
  unfold sExt at p
  split at p
  · rename_i xs hs
    obtain ⟨v, h1, np, vs, rfl, h3, h4, h5⟩ := R.sl i _ hs
    refine ⟨_, h1, .inl ⟨rfl, _, SqL.of h4⟩, G, ρ, W, F, R, p.of_rOut.mono fun ds W1 q np2 us F1 H1 s1 R1 fr hp hF hv => ?_⟩
    obtain ⟨hl, q⟩ := Po.of_ite q
    obtain ⟨v', h1', np', vs', e1, h3', h4', h5'⟩ := R1.sl i _ hs
    rw [h1] at h1'
    cases h1'
    cases e1
    refine ⟨np, np2, vs', us, rfl, rfl, h4', hp, sz5 (by rw [h5'.length, hv.length]; exact hl), ?_⟩
    exact q G σ F1 _ (.refl _) s1 (R1.mutOwn hs h1 (h5'.append hv))
  · exact p.elim
/-- x[k] = e -/
theorem s_set (h : PS X st (tAsg (tE X.K XE fe) (gSub (tVar i) (tE X.K XE fk) rSetL))) : PS X st (tS X.K XE (sSet i fk fe)) := by
  refine h.weak fun D σ H ⟨G, ρ, W, F, R, p⟩ => ?_
  unfold sSet at p
  split at p
  · rename_i xs hs
    refine ⟨G, ρ, W, F, R, p.of_rOut.mono fun d W1 q v F1 H1 s1 R1 hv => ?_⟩
    obtain ⟨v', h1, np, vs, rfl, h3, h4, h5⟩ := R1.sl i _ hs
    refine ⟨_, h1, G, ρ, W1, F1, R1, q.of_rOut.mono fun kd W2 q2 kv F2 H2 s2 R2 hk => ?_⟩
    cases hsd : setD xs kd d with
    | none => rw [hsd] at q2; exact q2.elim
    | some ys =>
      rw [hsd] at q2
      obtain ⟨v2, h1', np', vs', e1, h3', h4', h5'⟩ := R2.sl i _ hs
      rw [h1] at h1'
      cases h1'
      cases e1
      obtain ⟨n, j, rfl, hj, hall⟩ := setD_all hsd h5' (hv.mono s2)
      cases hk
      exact ⟨np, vs', n, j, rfl, rfl, h4', hj, q2 G σ F2 _ (.refl _) (s1.trans s2) (R2.mutOwn hs h1 hall)⟩
  · exact p.elim
theorem s_setT (h : PS X st (tAsg (tE X.K XE fe) (gSub (tVar i) (tE X.K XE fk) rSetL))) : PS X st (tS X.K XE (sSetT i fk fe)) := by
  refine h.weak fun D σ H ⟨G, ρ, W, F, R, p⟩ => ?_
  unfold sSetT at p
  split at p
  · rename_i hs
    refine ⟨G, ρ, W, F, R, p.of_rOut.mono fun d W1 q v F1 H1 s1 R1 hv => ?_⟩
    obtain ⟨v', h1, t, hT, rfl⟩ := R1.sl i _ hs
    refine ⟨_, h1, G, ρ, W1, F1, R1, q.of_rOut.mono fun kd W2 q2 kv F2 H2 s2 R2 hk => ?_⟩
    split at q2
    · rename_i ws
      cases hsd : setD ws kd d with
      | none => rw [hsd] at q2; exact q2.elim
      | some ys =>
        rw [hsd] at q2
        have tw := R2.tw
        rw [hT] at tw
        obtain ⟨tv, t1, t2, t3⟩ := tw
        obtain ⟨n, j, rfl, hj, hall⟩ := setD_all hsd t3 (hv.mono s2)
        cases hk
        have g : Gr X.K (fun a => a = t) F2 H2 F2 (upd H2 t (.lst (tv.set j v))) := ⟨.refl _, same_mut R2.fh t2, fun _ e => .inl e, fun a o e n _ => by rw [upd_ne n]; exact e, fun a e => by
          by_cases ha : a = t
          · subst ha; rw [upd_same]; exact fun z => nomatch z
          · rw [upd_ne ha]; exact e, fun tb => tb.mut t1 nt_lst⟩
        exact ⟨t, tv, n, j, rfl, rfl, t1, hj, q2 G σ F2 _ (.refl _) (s1.trans s2) (R2.newTown (W' := some ys) hT g upd_same t2 hall)⟩
    · exact q2.elim
  · exact p.elim
theorem d_ixT {x : Str} {p2 : Pos} (hx : PE X (.Name x p2) (tVar i)) (hb : PE X b (tE X.K XE fk)) (hs : PlainIx b) : PE X (.Subscript (.Name x p2) b pos) (tE X.K XE (eIxT i fk)) := by
  refine (pe_ix ix_list hx hb hs).weak fun σ H Q ⟨G, ρ, W, F, R, p⟩ => ?_
  unfold eIxT at p
  split at p
  · rename_i hs
    obtain ⟨v', h1, t, hT, rfl⟩ := R.sl i _ hs
    refine ⟨_, h1, G, ρ, W, F, R, p.of_bind.mono fun kd W1 q kv F1 H1 s1 R1 hk => ?_⟩
    simp only at q
    split at q
    · rename_i ws
      obtain ⟨z, hz, q2⟩ := Pg.of_ofO q
      have tw := R1.tw
      rw [hT] at tw
      obtain ⟨tv, t1, t2, t3⟩ := tw
      cases kd <;> simp only [ixD] at hz <;> try (cases hz; done)
      cases hk
      obtain ⟨w, e1, e2⟩ := atI_all t3 hz
      exact ⟨t, tv, _, w, rfl, rfl, SqL.of t1, e1, q2 w F1 H1 s1 R1 e2⟩
    · exact q.elim
  · exact p.elim
/-- a comprehension's list, told to all (a statement x = [..] of its own) -/
theorem frz_of {ga : SA} {σ : L2.St} {H : Hp} {Q : VK} (h : tE X.K XE (eFrz ga) σ H Q) : tL X.K XE ga σ H Q := by
  obtain ⟨G, ρ, W, F, R, p⟩ := h
  refine ⟨G, ρ, W, F, R, p.of_bind.mono fun ds W1 q np vs F1 H1 s1 R1 fr hp hF hv => ?_⟩
  have sF : Same F1 (upd F1 np (.lst vs)) := same_new hF
  exact q _ (upd F1 np (.lst vs)) H1 (s1.trans sF) (R1.freeze hp hF fr) (.lst (.inl (.inl upd_same)) (hv.mono sF))
theorem as_frz {ga : SA} (h : PS X st (tAsg (tL X.K XE ga) (gName i))) : PS X st (tAsg (tE X.K XE (eFrz ga)) (gName i)) := h.weak fun _ _ _ => frz_of
theorem as_comp {D0 : Rl} {it : SA} {g : SG} {c : SB} {e : SE} {is vs : List Nat} (hsub : ∀ j ∈ is, j ∈ vs) (h : PS X st (tAsg (tLc (tI D0 X.K XE it) (tG D0 X.K is g) (tT X.K X0 c) (tE X.K X0 e) vs) (gName i))) : PS X st (tAsg (tL X.K XE (lComp it g c e vs)) (gName i)) := h.weak fun _ _ _ => comp_of hsub
end

/-! ### several names at once -/
inductive Mv (K : PySem.W.Frag) (H0 F : Hp) : List V → List SV → List (Addr × HO) → Prop
  | nil : Mv K H0 F [] [] []
  | d {v : V} {x : Dt} {vs : List V} {svs : List SV} {ps : List (Addr × HO)} : Dq K F v x → Mv K H0 F vs svs ps → Mv K H0 F (v :: vs) (.d x :: svs) ps
  | own {p : Addr} {us : List V} {xs : List Dt} {vs : List V} {svs : List SV} {ps : List (Addr × HO)} : H0 p = none → DqAll K F us xs → (∀ e ∈ ps, e.1 ≠ p) → Mv K H0 F vs svs ps → Mv K H0 F (.ref p :: vs) (.own xs :: svs) (ps ++ [(p, .lst us)])
  | dk {p : Addr} {us : List (Key × V)} {kvs : List (Int × Dt)} {vs : List V} {svs : List SV} {ps : List (Addr × HO)} : H0 p = none → KvOk K F us kvs → (∀ e ∈ ps, e.1 ≠ p) → Mv K H0 F vs svs ps → Mv K H0 F (.ref p :: vs) (.dk kvs :: svs) (ps ++ [(p, .dK us)])
abbrev SM := Sl → Tw → Res (List SV × Tw)
def mNil : SM := fun _ W => .ok ([], W)
def mD (e : SE) (m : SM) : SM := fun ρ W => (e ρ W).bind fun p => (m ρ p.2).bind fun q => .ok (.d p.1 :: q.1, q.2)
def mL (f : SA) (m : SM) : SM := fun ρ W => (f ρ W).bind fun p => (m ρ p.2).bind fun q => .ok (.own p.1 :: q.1, q.2)
def tM (K : PySem.W.Frag) (XE : Str → Hp → Prop) (f : SM) : TA := fun σ H Q => ∃ G ρ W F, Rel K G ρ W σ F H ∧
  Pg XE G (f ρ W) fun svs W' => ∀ vs ps F' H', Same F F' → Rel K { G with ext := ps ++ G.ext } ρ W' σ F' H' → Mv K G.H0 F' vs svs ps → (∀ e ∈ ps, ∀ e' ∈ G.ext, e.1 ≠ e'.1) → Q vs H'
def setM : List Nat → List SV → Sl → Option Sl
  | [], [], ρ => some ρ
  | i :: is, sv :: svs, ρ => if i < ρ.length then setM is svs (ρ.set i (some sv)) else none
  | _, _, _ => none
def setV : List Nat → List V → L2.St → L2.St
  | i :: is, v :: vs, σ => setV is vs (σ.set i (some v))
  | _, _, σ => σ
def sPar (is : List Nat) (m : SM) : SS := fun ρ W => rOut (m ρ W) fun svs W1 => match setM is svs ρ with
  | some ρ' => .nx ρ' W1
  | none => .bad
theorem Pg.ext {α : Type} {XE : Str → Hp → Prop} {G : Gh} {E : List (Addr × HO)} {r : Res (α × Tw)} {P : α → Tw → Prop} (h : Pg XE G r P) : Pg XE { G with ext := E } r P := by
  cases r <;> exact h
theorem Rel.extSub {K : PySem.W.Frag} {G : Gh} {ρ : Sl} {W : Tw} {σ : L2.St} {F H : Hp} {E E' : List (Addr × HO)} (R : Rel K { G with ext := E } ρ W σ F H) (h : ∀ e ∈ E', e ∈ E) : Rel K { G with ext := E' } ρ W σ F H :=
  ⟨R.gr, R.len, R.t0, R.t1, R.tw, R.sl, R.dj, R.fr, fun e he => R.ex e (h e he), fun e he => R.xt e (h e he), R.tb, R.kk⟩
theorem Rel.setM {K : PySem.W.Frag} {F H : Hp} {W : Tw} {H0 : Hp} {E : List (Addr × HO)} : ∀ {vs : List V} {svs : List SV} {ps : List (Addr × HO)} {is : List Nat} {ρ ρ' : Sl} {σ : L2.St} {G : Gh}, Mv K H0 F vs svs ps → H0 = G.H0 → G.ext = ps ++ E → (∀ e ∈ ps, ∀ e' ∈ E, e.1 ≠ e'.1) → Rel K G ρ W σ F H →
    Sx.setM is svs ρ = some ρ' → ∃ G', SameB { G with ext := E } G' ∧ Rel K G' ρ' W (setV is vs σ) F H
  | _, _, _, [], ρ, ρ', σ, G, .nil, h0, he, hd, R, hs => by
    cases hs
    exact ⟨{ G with ext := E }, .refl _, ⟨R.gr, R.len, R.t0, R.t1, R.tw, R.sl, R.dj, R.fr, fun e h => R.ex e (by rw [he]; exact h), fun e h => R.xt e (by rw [he]; exact h), R.tb, R.kk⟩⟩
  | _, _, _, i :: is, ρ, ρ', σ, G, .nil, h0, he, hd, R, hs => by cases hs
  | _, _, _, [], ρ, ρ', σ, G, .d _ _, h0, he, hd, R, hs => by cases hs
  | _, _, _, [], ρ, ρ', σ, G, .own _ _ _ _, h0, he, hd, R, hs => by cases hs
  | _, _, _, [], ρ, ρ', σ, G, .dk _ _ _ _, h0, he, hd, R, hs => by cases hs
  | _, _, _, i :: is, ρ, ρ', σ, G, .d hv m, h0, he, hd, R, hs => by
    unfold Sx.setM at hs
    split at hs
    · rename_i hi
      have := Rel.setM (is := is) m h0 he hd (R.setD hi hv) hs
      exact this
    · cases hs
  | _, _, _, i :: is, ρ, ρ', σ, G, .own (p := p) (us := us) (xs := xs) (ps := ps) hp hx hn m, h0, he, hd, R, hs => by
    unfold Sx.setM at hs
    split at hs
    · rename_i hi
      subst h0
      obtain ⟨e1, e2, e3, e4⟩ := R.ex (p, .lst us) (by rw [he]; simp)
      have R1 : Rel K { G with ext := ps ++ E } ρ W σ F H := Rel.extSub (G := G) (E := G.ext) R fun e h => by
        rw [he]
        rcases List.mem_append.mp h with z | z
        · exact List.mem_append_left _ (List.mem_append_left _ z)
        · exact List.mem_append_right _ z
      have fr : Fresh { G with ext := ps ++ E } p := ⟨hp, e4, e3, fun e h => by
        rcases List.mem_append.mp h with z | z
        · exact hn e z
        · exact fun q => hd (p, .lst us) (by simp) e z q.symm⟩
      have R2 := R1.takeOwn hi fr e1 e2 hx
      obtain ⟨G', b, R3⟩ := Rel.setM (G := ({ G with ext := ps ++ E } : Gh).own i p) (E := E) m rfl rfl (fun e h e' h' => hd e (List.mem_append_left _ h) e' h') R2 hs
      exact ⟨G', ⟨b.T0, b.F0, b.H0, b.ext, b.K⟩, R3⟩
    · cases hs
  | _, _, _, i :: is, ρ, ρ', σ, G, .dk (p := p) (us := us) (kvs := xs) (ps := ps) hp hx hn m, h0, he, hd, R, hs => by
    unfold Sx.setM at hs
    split at hs
    · rename_i hi
      subst h0
      obtain ⟨e1, e2, e3, e4⟩ := R.ex (p, .dK us) (by rw [he]; simp)
      have R1 : Rel K { G with ext := ps ++ E } ρ W σ F H := Rel.extSub (G := G) (E := G.ext) R fun e h => by
        rw [he]
        rcases List.mem_append.mp h with z | z
        · exact List.mem_append_left _ (List.mem_append_left _ z)
        · exact List.mem_append_right _ z
      have fr : Fresh { G with ext := ps ++ E } p := ⟨hp, e4, e3, fun e h => by
        rcases List.mem_append.mp h with z | z
        · exact hn e z
        · exact fun q => hd (p, .dK us) (by simp) e z q.symm⟩
      have R2 := R1.takeSv hi fr e1 e2 (sv := .dk xs) ⟨p, us, rfl, rfl, e1, hx⟩
      obtain ⟨G', b, R3⟩ := Rel.setM (G := ({ G with ext := ps ++ E } : Gh).own i p) (E := E) m rfl rfl (fun e h e' h' => hd e (List.mem_append_left _ h) e' h') R2 hs
      exact ⟨G', ⟨b.T0, b.F0, b.H0, b.ext, b.K⟩, R3⟩
    · cases hs
section
variable {X : Cx} {XE : Str → Hp → Prop} {st : Stmt} {e : Expr} {es : List Expr} {fe : SE} {fl : SA} {m : SM} {pos : Pos}
theorem m_nil : PA X [] (tM X.K XE mNil) := pa_nil.weak fun σ H Q ⟨G, ρ, W, F, R, p⟩ => p [] [] F H (.refl _) R .nil (fun _ h => by cases h)
theorem m_d (ha : PE X e (tE X.K XE fe)) (hr : PA X es (tM X.K XE m)) (hs : starEach (e :: es) X.env = (false, eval e X.env) :: starEach es X.env := by rfl) : PA X (e :: es) (tM X.K XE (mD fe m)) := by
  refine (pa_cons ha hr hs).weak fun σ H Q ⟨G, ρ, W, F, R, p⟩ => ?_
  exact ⟨G, ρ, W, F, R, p.of_bind.mono fun d W1 q v F1 H1 s1 R1 hv => ⟨G, ρ, W1, F1, R1, q.of_bind.mono fun svs W2 q2 vs ps F2 H2 s2 R2 hm hd => q2 _ ps F2 H2 (s1.trans s2) R2 (.d (hv.mono s2) hm) hd⟩⟩
theorem m_l (ha : PE X e (tL X.K XE fl)) (hr : PA X es (tM X.K XE m)) (hs : starEach (e :: es) X.env = (false, eval e X.env) :: starEach es X.env := by rfl) : PA X (e :: es) (tM X.K XE (mL fl m)) := by
  refine (pa_cons ha hr hs).weak fun σ H Q ⟨G, ρ, W, F, R, p⟩ => ?_
  refine ⟨G, ρ, W, F, R, p.of_bind.mono fun ds W1 q np us F1 H1 s1 R1 fr hp hF hv => ⟨{ G with ext := (np, .lst us) :: G.ext }, ρ, W1, F1, R1.aside hp hF fr, Pg.mono (Pg.ext q.of_bind) fun svs W2 q2 vs ps F2 H2 s2 R2 hm hd => ?_⟩⟩
  refine q2 _ (ps ++ [(np, .lst us)]) F2 H2 (s1.trans s2) (by rw [List.append_assoc]; exact R2) (.own fr.1 (hv.mono s2) (fun e he => hd e he _ (List.mem_cons_self ..)) hm) fun e he e' he' => ?_
  rcases List.mem_append.mp he with z | z
  · exact hd e z e' (List.mem_cons_of_mem _ he')
  · rw [List.mem_singleton.mp z]
    exact Ne.symm (fr.2.2.2 e' he')
theorem par_len {σ : L2.St} {H : Hp} {Q : List V → Hp → Prop} {is : List Nat} {D : Ends} (h : tS X.K XE (sPar is m) D σ H) (hq : ∀ vs H1, vs.length = is.length → D.nx (setV is vs σ) H1 → Q vs H1) : tM X.K XE m σ H Q := by
  obtain ⟨G, ρ, W, F, R, p⟩ := h
  refine ⟨G, ρ, W, F, R, p.of_rOut.mono fun svs W1 q vs ps F1 H1 s1 R1 hm hd => ?_⟩
  split at q
  · rename_i ρ' hs
    obtain ⟨G', b, R2⟩ := Rel.setM (G := { G with ext := ps ++ G.ext }) (E := G.ext) hm rfl rfl hd R1 hs
    refine hq vs H1 ?_ (q G' _ F1 H1 ⟨b.T0, b.F0, b.H0, b.ext, b.K⟩ s1 R2)
    have l1 : ∀ {is : List Nat} {svs : List SV} {ρ ρ' : Sl}, setM is svs ρ = some ρ' → svs.length = is.length := by
      intro is
      induction is with
      | nil => intro svs ρ ρ' h; cases svs with
        | nil => rfl
        | cons _ _ => cases h
      | cons i is ih => intro svs ρ ρ' h; cases svs with
        | nil => cases h
        | cons s svs =>
          unfold setM at h
          split at h
          · rw [List.length_cons, List.length_cons, ih h]
          · cases h
    have l2 : ∀ {vs : List V} {svs : List SV} {ps : List (Addr × HO)}, Mv X.K G.H0 F1 vs svs ps → vs.length = svs.length := by
      intro vs svs ps h
      induction h with
      | nil => rfl
      | d _ _ ih => rw [List.length_cons, List.length_cons, ih]
      | own _ _ _ _ ih => rw [List.length_cons, List.length_cons, ih]
      | dk _ _ _ _ ih => rw [List.length_cons, List.length_cons, ih]
    rw [l2 hm, l1 hs]
  · exact q.elim
theorem s_par2 {i j : Nat} (h : PS X st (tPar i j (tM X.K XE m))) : PS X st (tS X.K XE (sPar [i, j] m)) :=
  h.weak fun D σ H p => par_len p fun vs H1 hl q => by
    rcases vs with _ | ⟨v, _ | ⟨w, _ | ⟨x, vs⟩⟩⟩ <;> simp at hl
    exact ⟨v, w, rfl, q⟩
theorem s_par3 {i j l : Nat} (h : PS X st (tPar3 i j l (tM X.K XE m))) : PS X st (tS X.K XE (sPar [i, j, l] m)) :=
  h.weak fun D σ H p => par_len p fun vs H1 hl q => by
    rcases vs with _ | ⟨v, _ | ⟨w, _ | ⟨x, _ | ⟨y, vs⟩⟩⟩⟩ <;> simp at hl
    exact ⟨v, w, x, rfl, q⟩
def gNames : List Nat → TGs
  | [] => gNil
  | i :: is => gCons (gName i) (gNames is)
theorem gNames_of : ∀ {is : List Nat} {vs : List V} {σ : L2.St} {H : Hp} {Q : L2.St → Hp → Prop}, vs.length = is.length → Q (setV is vs σ) H → gNames is vs σ H Q
  | [], [], _, _, _, _, q => ⟨rfl, q⟩
  | i :: is, v :: vs, σ, H, Q, hl, q => ⟨v, vs, rfl, gNames_of (is := is) (by simpa using hl) q⟩
  | [], _ :: _, _, _, _, hl, _ => by simp at hl
  | _ :: _, [], _, _, _, hl, _ => by simp at hl
/-- more names, or names that inner blocks read: by the tuple -/
theorem s_parN {is : List Nat} {n : Nat} (h : PS X st (tAsg (tTup (tM X.K XE m)) (gTup X.K n (gNames is)))) (hn : is.length = n) (hle : n ≤ 1000) : PS X st (tS X.K XE (sPar is m)) := by
  refine h.weak fun D σ H ⟨G, ρ, W, F, R, p⟩ => ?_
  refine ⟨G, ρ, W, F, R, p.of_rOut.mono fun svs W1 q vs ps F1 H1 s1 R1 hm hd => ?_⟩
  split at q
  · rename_i ρ' hs
    have l1 : ∀ {is : List Nat} {svs : List SV} {ρ ρ' : Sl}, setM is svs ρ = some ρ' → svs.length = is.length := by
      intro is
      induction is with
      | nil => intro svs ρ ρ' h; cases svs with
        | nil => rfl
        | cons _ _ => cases h
      | cons i is ih => intro svs ρ ρ' h; cases svs with
        | nil => cases h
        | cons s svs =>
          unfold setM at h
          split at h
          · rw [List.length_cons, List.length_cons, ih h]
          · cases h
    have l2 : ∀ {vs : List V} {svs : List SV} {ps : List (Addr × HO)}, Mv X.K G.H0 F1 vs svs ps → vs.length = svs.length := by
      intro vs svs ps h
      induction h with
      | nil => rfl
      | d _ _ ih => rw [List.length_cons, List.length_cons, ih]
      | own _ _ _ _ ih => rw [List.length_cons, List.length_cons, ih]
      | dk _ _ _ _ ih => rw [List.length_cons, List.length_cons, ih]
    have hl : vs.length = is.length := by rw [l2 hm, l1 hs]
    refine ⟨sz6 (by omega), fun np hnp => ?_⟩
    have g : Gr0 X.K F1 H1 F1 (upd H1 np (.tup vs)) := .newH R1.fh hnp
    obtain ⟨G', b, R2⟩ := Rel.setM (G := { G with ext := ps ++ G.ext }) (E := G.ext) hm rfl rfl hd (R1.grow g) hs
    exact ⟨np, vs, rfl, .inl (.inl upd_same), by omega, gNames_of hl (q G' _ F1 _ ⟨b.T0, b.F0, b.H0, b.ext, b.K⟩ s1 R2)⟩
  · exact q.elim
end

/-! ### defs -/
def start0 (m : Nat) (ds : List Dt) : Sl := ds.map (fun x => some (.d x)) ++ List.replicate (m - ds.length) none
def startT (m : Nat) (ds : List Dt) : Sl := match ds with
  | d :: ds => some (.d d) :: some .town :: (ds.map (fun x => some (.d x)) ++ List.replicate (m - (ds.length + 2)) none)
  | [] => []
def runP (m : Nat) (B : SS) (ds : List Dt) : Res Dt := match B (start0 m ds) none with
  | .rt (.d x) _ => .ok x
  | .nx _ _ => .ok .none
  | .exc c => .exc c
  | _ => .bad
def runL (m : Nat) (B : SS) (ds : List Dt) : Res (List Dt) := match B (start0 m ds) none with
  | .rt (.own x) _ => .ok x
  | .exc c => .exc c
  | _ => .bad
def runT (m : Nat) (B : SS) (ds : List Dt) (ws : List Dt) : Res (Dt × List Dt) := match B (startT m ds) (some ws) with
  | .rt (.d x) (some ws') => .ok (x, ws')
  | .nx _ (some ws') => .ok (.none, ws')
  | .exc c => .exc c
  | _ => .bad
theorem dq_slots {K : PySem.W.Frag} {F H : Hp} {T : Option Addr} {fp : Nat → List Addr} {k : Nat} : ∀ {vs : List V} {ds : List Dt} {i : Nat} {sv : SV}, DqAll K F vs ds → (ds.map (fun x => some (SV.d x)) ++ List.replicate k none)[i]? = some (some sv) →
    ∃ v, (vs.map some ++ List.replicate k none)[i]? = some (some v) ∧ SlOk K T F H v (fp i) sv := by
  intro vs ds i sv h e
  by_cases hi : i < ds.length
  · rw [List.getElem?_append_left (by simpa using hi), List.getElem?_map] at e
    have hl := h.length
    cases hd : ds[i]? with
    | none => rw [hd] at e; cases e
    | some d =>
      rw [hd] at e
      cases e
      obtain ⟨v, h1, h2⟩ := h.getD hd
      exact ⟨v, by rw [List.getElem?_append_left (by simp; omega), List.getElem?_map, h1]; rfl, h2⟩
  · rw [List.getElem?_append_right (by simpa using hi)] at e
    simp only [List.getElem?_replicate] at e
    split at e <;> cases e
theorem Rel.start {K : PySem.W.Frag} {F H : Hp} {vs : List V} {ds : List Dt} {k : Nat} (sm : Same F H) (tb : TabsF (tabsOf K) F H) (h : DqAll K F vs ds) : Rel K ⟨K, none, F, H, [], none, fun _ => []⟩ (ds.map (fun x => some (SV.d x)) ++ List.replicate k none) none (vs.map some ++ List.replicate k none) F H :=
  ⟨.refl sm, by simp [h.length], fun t e => (by cases e), fun t e => (by cases e), trivial, fun i sv e => dq_slots h e, fun i j a ha => (by cases ha), fun i a ha => (by cases ha), fun e he => (by cases he), fun e he => (by cases he), tb, rfl⟩
theorem Rel.startT {K : PySem.W.Frag} {F H : Hp} {v0 : V} {d : Dt} {t : Addr} {tv : List V} {ws : List Dt} {vs : List V} {ds : List Dt} {k : Nat} (sm : Same F H) (tb : TabsF (tabsOf K) F H) (h0 : Dq K F v0 d) (h : DqAll K F vs ds) (t1 : H t = some (.lst tv)) (t2 : F t = none) (t3 : DqAll K F tv ws) :
    Rel K ⟨K, some t, F, H, [], some t, fun _ => []⟩ (some (.d d) :: some .town :: (ds.map (fun x => some (SV.d x)) ++ List.replicate k none)) (some ws) (some v0 :: some (.ref t) :: (vs.map some ++ List.replicate k none)) F H :=
  ⟨.refl sm, by simp [h.length], fun t' e => e, fun t' e => .inl e, ⟨tv, t1, t2, t3⟩, fun i sv e => by
    match i, e with
    | 0, e => cases e; exact ⟨v0, rfl, h0⟩
    | 1, e => cases e; exact ⟨.ref t, rfl, t, rfl, rfl⟩
    | i + 2, e => exact dq_slots (fp := fun j => []) (i := i) h e, fun i j a ha => (by cases ha), fun i a ha => (by cases ha), fun e he => (by cases he), fun e he => (by cases he), tb, rfl⟩
section
variable {P : Program} {w : World} {K : PySem.W.Frag} {mg : Str → Option Value} {base : Heap} {x qual : Str} {st : Stmt} {f : Addr} {fd : FuncData} {N ps : List Str} {k n : Nat} {B : SS}
theorem fn_P (F : Fun K x qual st f fd) (S : FnScope N ps (defScope st)) (hn : ps.length = n)
    (hb : ∀ (cdv : Value) (A : Around) (outer : List Env) (s : Shared) (H : Hp) (E : XK), Room k (A.deeper (envOfC qual (defScope st) s.heap.objs.size f cdv)) → PSs (cxOf CX0 P w K mg base N qual (defScope st) f cdv A outer s H E).nox (defBody st) (tS K X0 B)) :
    FnOk P w K mg base CX0 (k + 1) f fd ps (spP K n (runP N.length B)) := by
  refine F.ok S (fun vs H Q E h => ?_) fun cdv A outer s H vs Q E hr h => ⟨tS K X0 B, hb cdv A outer s H E hr, ?_⟩
  · obtain ⟨Fz, ds, _, _, hd, hl, _⟩ := h
    rw [hd.length, hl, hn]
  · obtain ⟨Fz, ds, sm, tb, hd, hl, hm⟩ := h
    have e : L2.start N vs = vs.map some ++ List.replicate (N.length - ds.length) none := by unfold L2.start; rw [hd.length]
    rw [e]
    refine ⟨_, start0 N.length ds, none, Fz, Rel.start sm tb hd, ?_⟩
    unfold runP at hm
    cases hB : B (start0 N.length ds) none with
    | nx ρ W =>
      rw [hB] at hm
      exact fun G' σ' F' H' b s R => hm .non F' H' (by have g := R.gr; unfold Gh.tm at g; rw [b.T0, b.F0, b.H0] at g; exact g.mono fun _ z => nomatch z) .non
    | rt r W =>
      rw [hB] at hm
      cases r with
      | d x => exact fun G' ρ' σ' v F' H' b s R hv => hm v F' H' (by have g := R.gr; unfold Gh.tm at g; rw [b.T0, b.F0, b.H0] at g; exact g.mono fun _ z => nomatch z) hv
      | _ => exact hm.elim
    | exc c => rw [hB] at hm; exact hm.elim
    | rs r ρ W => rw [hB] at hm; exact hm.elim
    | bad => rw [hB] at hm; exact hm.elim
theorem fn_L (F : Fun K x qual st f fd) (S : FnScope N ps (defScope st)) (hn : ps.length = n)
    (hb : ∀ (cdv : Value) (A : Around) (outer : List Env) (s : Shared) (H : Hp) (E : XK), Room k (A.deeper (envOfC qual (defScope st) s.heap.objs.size f cdv)) → PSs (cxOf CX0 P w K mg base N qual (defScope st) f cdv A outer s H E).nox (defBody st) (tS K X0 B)) :
    FnOk P w K mg base CX0 (k + 1) f fd ps (spL K n (runL N.length B)) := by
  refine F.ok S (fun vs H Q E h => ?_) fun cdv A outer s H vs Q E hr h => ⟨tS K X0 B, hb cdv A outer s H E hr, ?_⟩
  · obtain ⟨Fz, ds, _, _, hd, hl, _⟩ := h
    rw [hd.length, hl, hn]
  · obtain ⟨Fz, ds, sm, tb, hd, hl, hm⟩ := h
    have e : L2.start N vs = vs.map some ++ List.replicate (N.length - ds.length) none := by unfold L2.start; rw [hd.length]
    rw [e]
    refine ⟨_, start0 N.length ds, none, Fz, Rel.start sm tb hd, ?_⟩
    unfold runL at hm
    cases hB : B (start0 N.length ds) none with
    | nx ρ W => rw [hB] at hm; exact hm.elim
    | rt r W =>
      rw [hB] at hm
      cases r with
      | own xs =>
        intro G' ρ' σ' v F' H' b s R hv
        obtain ⟨p, us, rfl, h0, h1, h2, h3⟩ := hv
        exact hm p us F' H' (by have g := R.gr; unfold Gh.tm at g; rw [b.T0, b.F0, b.H0] at g; exact g.mono fun _ z => nomatch z) (by rw [b.H0] at h0; exact h0) h1 h2 h3
      | _ => exact hm.elim
    | exc c => rw [hB] at hm; exact hm.elim
    | rs r ρ W => rw [hB] at hm; exact hm.elim
    | bad => rw [hB] at hm; exact hm.elim
theorem fn_T (F : Fun K x qual st f fd) (S : FnScope N ps (defScope st)) (hn : ps.length = n + 2)
    (hb : ∀ (cdv : Value) (A : Around) (outer : List Env) (s : Shared) (H : Hp) (E : XK), Room k (A.deeper (envOfC qual (defScope st) s.heap.objs.size f cdv)) → PSs (cxOf CX0 P w K mg base N qual (defScope st) f cdv A outer s H E).nox (defBody st) (tS K X0 B)) :
    FnOk P w K mg base CX0 (k + 1) f fd ps (spT K n (runT N.length B)) := by
  refine F.ok S (fun vs H Q E h => ?_) fun cdv A outer s H vs Q E hr h => ⟨tS K X0 B, hb cdv A outer s H E hr, ?_⟩
  · obtain ⟨Fz, d, ds, v0, t, vr, tv, ws, rfl, _, _, _, hd, hl, _⟩ := h
    rw [List.length_cons, List.length_cons, hd.length, hl, hn]
  · obtain ⟨Fz, d, ds, v0, t, vr, tv, ws, rfl, sm, tb, h0, hd, hl, t1, t2, t3, hm⟩ := h
    have e : L2.start N (v0 :: .ref t :: vr) = some v0 :: some (.ref t) :: (vr.map some ++ List.replicate (N.length - (ds.length + 2)) none) := by
      unfold L2.start
      rw [List.length_cons, List.length_cons, hd.length]
      rfl
    rw [e]
    refine ⟨_, Sx.startT N.length (d :: ds), some ws, Fz, Rel.startT sm tb h0 hd t1 t2 t3, ?_⟩
    unfold runT at hm
    cases hB : B (Sx.startT N.length (d :: ds)) (some ws) with
    | nx ρ W =>
      rw [hB] at hm
      cases W with
      | none => exact hm.elim
      | some ws' =>
        intro G' σ' F' H' b s R
        have hT : G'.T = some t := R.t0 t (by rw [b.T0])
        have tw := R.tw
        rw [hT] at tw
        obtain ⟨tv', q1, q2, q3⟩ := tw
        exact hm .non F' H' tv' (by have g := R.gr; unfold Gh.tm at g; rw [b.T0, b.F0, b.H0] at g; exact g.mono fun _ z => (Option.some.inj z).symm) q1 q2 q3 .non
    | rt r W =>
      rw [hB] at hm
      cases r with
      | d x =>
        cases W with
        | none => exact hm.elim
        | some ws' =>
          intro G' ρ' σ' v F' H' b s R hv
          have hT : G'.T = some t := R.t0 t (by rw [b.T0])
          have tw := R.tw
          rw [hT] at tw
          obtain ⟨tv', q1, q2, q3⟩ := tw
          exact hm v F' H' tv' (by have g := R.gr; unfold Gh.tm at g; rw [b.T0, b.F0, b.H0] at g; exact g.mono fun _ z => (Option.some.inj z).symm) q1 q2 q3 hv
      | _ => cases W <;> exact hm.elim
    | exc c => rw [hB] at hm; exact hm.elim
    | rs r ρ W => rw [hB] at hm; exact hm.elim
    | bad => rw [hB] at hm; exact hm.elim
end
end Sx

namespace Sx
open PySem PySem.Spec PyProof.Rows L2

/-! ### dicts with int keys -/
def putD (kvs : List (Int × Dt)) (k : Int) (d : Dt) : List (Int × Dt) :=
  if (kvs.any fun kv => decide (kv.1 = k)) = true then kvs.map (fun kv => if kv.1 = k then (kv.1, d) else kv) else kvs ++ [(k, d)]
def mergeD (kvs more : List (Int × Dt)) : List (Int × Dt) := more.foldl (fun acc kv => putD acc kv.1 kv.2) kvs
def valD (kvs : List (Int × Dt)) (k : Int) : Option Dt := (kvs.find? fun kv => decide (kv.1 = k)).map (·.2)
def pairsD : List Dt → Option (List (Int × Dt))
  | [] => some []
  | .tuple [.int k, v] :: ds => (pairsD ds).map fun r => (k, v) :: r
  | _ => none
def dictOf : Dt → Option (List (Int × Dt))
  | .list ds => (pairsD ds).map (mergeD [])
  | _ => none
abbrev SK := Sl → Tw → Res (List (Int × Dt) × Tw)
def kDict (e : SE) : SK := fun ρ W => (e ρ W).bind fun p => ofO (dictOf p.1) p.2
def dkAt (ρ : Sl) (i : Nat) : Option (List (Int × Dt)) := match ρ[i]? with
  | some (some (.dk kvs)) => some kvs
  | some (some (.fd kvs)) => some kvs
  | _ => none
def inDk (ρ : Sl) (i : Nat) (k : Dt) : Option Bool := match dkAt ρ i, k with
  | some kvs, .int k => some (valD kvs k).isSome
  | _, _ => none
def eDin (i : Nat) (fk : SE) : SE := fun ρ W => (fk ρ W).bind fun p => ofO ((inDk ρ i p.1).map PyData.bool) p.2
def eDnin (i : Nat) (fk : SE) : SE := fun ρ W => (fk ρ W).bind fun p => ofO ((inDk ρ i p.1).map fun b => PyData.bool (!b)) p.2
def getDk (kvs : List (Int × Dt)) (k : Dt) : Option Dt := match k with
  | .int k => valD kvs k
  | _ => none
def eDget (i : Nat) (fk : SE) : SE := fun ρ W => match dkAt ρ i with
  | some kvs => (fk ρ W).bind fun p => ofO (getDk kvs p.1) p.2
  | none => .bad
def iDk (i : Nat) : SA := fun ρ W => match ρ[i]? with
  | some (some (.fd kvs)) => .ok (kvs.map (fun kv => PyData.int kv.1), W)
  | _ => .bad
def lLock (i : Nat) (f : SA) : SA := fun ρ W => match ρ[i]? with
  | some (some (.dk kvs)) => nox (f (ρ.set i (some (.fd kvs))) W)
  | _ => .bad
def sDk (i : Nat) (f : SK) : SS := fun ρ W => rOut (f ρ W) fun kvs W1 => if i < ρ.length then .nx (ρ.set i (some (.dk kvs))) W1 else .bad
def mK (f : SK) (m : SM) : SM := fun ρ W => (f ρ W).bind fun p => (m ρ p.2).bind fun q => .ok (.dk p.1 :: q.1, q.2)
def tDk (K : PySem.W.Frag) (XE : Str → Hp → Prop) (f : SK) : TE := fun σ H Q => ∃ G ρ W F, Rel K G ρ W σ F H ∧
  Pg XE G (f ρ W) fun kvs W' => ∀ p vs F' H', Same F F' → Rel K G ρ W' σ F' H' → Fresh G p → H' p = some (.dK vs) → F' p = none → KvOk K F' vs kvs → Q (.ref p) H'
section
variable {K : PySem.W.Frag} {F : Hp}
theorem KvOk.any {k : Int} : ∀ {vs : List (Key × V)} {ds : List (Int × Dt)}, KvOk K F vs ds → (vs.any fun kv => decide (kv.1 = Sum.inl k)) = (ds.any fun kv => decide (kv.1 = k))
  | _, _, .nil => rfl
  | _, _, .cons (k := j) h t => by
    rw [List.any_cons, List.any_cons, KvOk.any t]
    congr 1
    by_cases e : j = k <;> simp [e]
theorem KvOk.find {k : Int} : ∀ {vs : List (Key × V)} {ds : List (Int × Dt)}, KvOk K F vs ds → (valV vs (Sum.inl k) = none ∧ valD ds k = none) ∨ ∃ v d, valV vs (Sum.inl k) = some v ∧ valD ds k = some d ∧ Dq K F v d
  | _, _, .nil => .inl ⟨rfl, rfl⟩
  | _, _, .cons (k := j) h t => by
    by_cases e : j = k
    · subst e
      exact .inr ⟨_, _, by unfold valV; simp, by unfold valD; simp, h⟩
    · have e1 : ∀ vs v, valV (((Sum.inl j : Key), v) :: vs) (Sum.inl k) = valV vs (Sum.inl k) := fun vs v => by unfold valV; simp [e]
      have e2 : ∀ ds d, valD ((j, d) :: ds) k = valD ds k := fun ds d => by unfold valD; simp [e]
      rw [e1, e2]
      exact KvOk.find t
theorem KvOk.map {k : Int} {v : V} {d : Dt} (hv : Dq K F v d) : ∀ {vs : List (Key × V)} {ds : List (Int × Dt)}, KvOk K F vs ds → KvOk K F (vs.map (fun kv => if kv.1 = Sum.inl k then (kv.1, v) else kv)) (ds.map (fun kv => if kv.1 = k then (kv.1, d) else kv))
  | _, _, .nil => .nil
  | _, _, .cons (k := j) h t => by
    rw [List.map_cons, List.map_cons]
    by_cases e : j = k
    · subst e
      simp only [if_true]
      exact .cons hv (KvOk.map hv t)
    · have : ¬ ((Sum.inl j : Key) = Sum.inl k) := fun z => e (Sum.inl.inj z)
      simp only [if_neg this, if_neg e]
      exact .cons h (KvOk.map hv t)
theorem KvOk.append {us : List (Key × V)} {es : List (Int × Dt)} (h' : KvOk K F us es) : ∀ {vs : List (Key × V)} {ds : List (Int × Dt)}, KvOk K F vs ds → KvOk K F (vs ++ us) (ds ++ es)
  | _, _, .nil => h'
  | _, _, .cons h t => .cons h (KvOk.append h' t)
theorem KvOk.put {k : Int} {v : V} {d : Dt} {vs : List (Key × V)} {ds : List (Int × Dt)} (h : KvOk K F vs ds) (hv : Dq K F v d) : KvOk K F (putK vs (Sum.inl k) v) (putD ds k d) := by
  unfold putK putD
  rw [h.any]
  split
  · exact h.map hv
  · exact KvOk.append (.cons hv .nil) h
theorem KvOk.merge : ∀ {us : List (Key × V)} {es : List (Int × Dt)} {vs : List (Key × V)} {ds : List (Int × Dt)}, KvOk K F us es → KvOk K F vs ds → KvOk K F (mergeK vs us) (mergeD ds es)
  | _, _, _, _, .nil, h => h
  | _, _, _, _, .cons hv t, h => by
    unfold mergeK mergeD
    rw [List.foldl_cons, List.foldl_cons]
    exact KvOk.merge t (h.put hv)
theorem pairs_of {xs : List V} {ds : List Dt} {kvs : List (Int × Dt)} (h : DqAll K F xs ds) (e : pairsD ds = some kvs) : ∃ (ps : List Addr) (us : List (Key × V)), xs = ps.map V.ref ∧ Paired (fun p kv => SqT K F p [kV kv.1, kv.2]) ps us ∧ KvOk K F us kvs := by
  induction ds generalizing xs kvs with
  | nil => cases h; cases e; exact ⟨[], [], rfl, .nil, .nil⟩
  | cons d ds ih =>
    cases h with
    | cons h1 h2 =>
      cases d <;> try (cases e; done)
      rename_i ys
      rcases ys with _ | ⟨y, _ | ⟨z, _ | ⟨z2, ys⟩⟩⟩ <;> try (cases e; done)
      · cases y <;> cases e
      · cases y <;> try (cases e; done)
        rename_i k
        have e : (pairsD ds).map (fun r => (k, z) :: r) = some kvs := e
        cases hp : pairsD ds with
        | none => rw [hp] at e; cases e
        | some r =>
          rw [hp] at e
          cases e
          obtain ⟨ps, us, rfl, q1, q2⟩ := ih h2 hp
          cases h1 with
          | tup hs ha =>
            cases ha with
            | cons a1 a2 =>
              cases a1
              cases a2 with
              | cons a2 a3 =>
                cases a3
                exact ⟨_ :: ps, (.inl k, _) :: us, rfl, .cons hs q1, .cons a2 q2⟩
      · cases y <;> cases e
theorem paired_mono {F' : Hp} (s : Same F F') : ∀ {ps : List Addr} {us : List (Key × V)}, Paired (fun p kv => SqT K F p [kV kv.1, kv.2]) ps us → Paired (fun p kv => SqT K F' p [kV kv.1, kv.2]) ps us
  | _, _, .nil => .nil
  | _, _, .cons h t => .cons (sqT_mono s h) (paired_mono s t)
end
section
variable {X : Cx} {XE : Str → Hp → Prop} {st : Stmt} {e a b : Expr} {es : List Expr} {fe fk : SE} {fl : SA} {fd : SK} {m : SM} {pos p : Pos} {i : Nat}
/-- dict([..]) -/
theorem k_dict (hc : X.calm = true) (hg : Gl X "dict") (hm : X.mg "dict" = none) (hv : bootBuiltins "dict" = some (.type "dict")) (he : PE X e (tE X.K XE fe)) (hs : starEach [e] X.env = [(false, eval e X.env)] := by rfl) : PE X (.Call (.Name "dict" p) [e] [] pos) (tDk X.K XE (kDict fe)) := by
  refine (pe_callTy (call_dictP hc) hg hm hv (pa_cons he pa_nil hs) (by decide) (by decide) hs (by rfl)).weak fun σ H Q ⟨G, ρ, W, F, R, p⟩ => ?_
  refine ⟨G, ρ, W, F, R, p.of_bind.mono fun d W1 q v F1 H1 s1 R1 hv => ?_⟩
  obtain ⟨kvs, hk, q2⟩ := q.of_ofO
  cases d <;> try (cases hk; done)
  rename_i ds
  have hk : (pairsD ds).map (mergeD []) = some kvs := hk
  cases hp : pairsD ds with
  | none => rw [hp] at hk; cases hk
  | some r =>
    rw [hp] at hk
    cases hk
    cases hv with
    | lst h1 h2 =>
      obtain ⟨ps, us, rfl, w1, w2⟩ := pairs_of h2 hp
      refine ⟨_, ps, us, rfl, R1.fh.seq h1, paired_mono R1.fh w1, fun np hnp => ?_⟩
      have g : Gr0 X.K F1 H1 F1 (upd H1 np (.dK (mergeK [] us))) := .newH R1.fh hnp
      exact q2 np _ F1 _ s1 (R1.grow g) (R1.fresh hnp) upd_same (R1.fh.free hnp) (KvOk.merge w2 .nil)
theorem s_dk (h : PS X st (tAsg (tDk X.K XE fd) (gName i))) : PS X st (tS X.K XE (sDk i fd)) :=
  h.weak fun D σ H ⟨G, ρ, W, F, R, p⟩ => ⟨G, ρ, W, F, R, p.of_rOut.mono fun kvs W1 q np vs F1 H1 s1 R1 fr hp hF hv => by
    obtain ⟨hi, q⟩ := Po.of_ite q
    exact q _ _ F1 H1 (G.own_same i np) s1 (R1.takeSv (sv := .dk kvs) hi fr hp hF ⟨np, vs, rfl, rfl, hp, hv⟩)⟩
theorem m_k (ha : PE X e (tDk X.K XE fd)) (hr : PA X es (tM X.K XE m)) (hs : starEach (e :: es) X.env = (false, eval e X.env) :: starEach es X.env := by rfl) : PA X (e :: es) (tM X.K XE (mK fd m)) := by
  refine (pa_cons ha hr hs).weak fun σ H Q ⟨G, ρ, W, F, R, p⟩ => ?_
  refine ⟨G, ρ, W, F, R, p.of_bind.mono fun ds W1 q np us F1 H1 s1 R1 fr hp hF hv => ⟨{ G with ext := (np, .dK us) :: G.ext }, ρ, W1, F1, R1.aside hp hF fr, Pg.mono (Pg.ext q.of_bind) fun svs W2 q2 vs ps F2 H2 s2 R2 hm hd => ?_⟩⟩
  refine q2 _ (ps ++ [(np, .dK us)]) F2 H2 (s1.trans s2) (by rw [List.append_assoc]; exact R2) (.dk fr.1 (hv.mono s2) (fun e he => hd e he _ (List.mem_cons_self ..)) hm) fun e he e' he' => ?_
  rcases List.mem_append.mp he with z | z
  · exact hd e z e' (List.mem_cons_of_mem _ he')
  · rw [List.mem_singleton.mp z]
    exact Ne.symm (fr.2.2.2 e' he')
theorem dk_of {K : PySem.W.Frag} {G : Gh} {ρ : Sl} {W : Tw} {σ : L2.St} {F H : Hp} {kvs : List (Int × Dt)} (R : Rel K G ρ W σ F H) (h : dkAt ρ i = some kvs) : ∃ a vs, σ[i]? = some (some (.ref a)) ∧ Rd H a (.dK vs) ∧ KvOk K F vs kvs := by
  unfold dkAt at h
  split at h
  · rename_i kv hs
    cases h
    obtain ⟨v, h1, a, vs, rfl, _, h3, h4⟩ := R.sl i _ hs
    exact ⟨a, vs, h1, .inl h3, h4⟩
  · rename_i kv hs
    cases h
    obtain ⟨v, h1, a, o, vs, rfl, h3, h4⟩ := R.sl i _ hs
    exact ⟨a, vs, h1, .inr ⟨o, R.fh _ _ h3⟩, h4⟩
  · cases h
theorem din_of {σ : L2.St} {H : Hp} {Q : VK} {x : Str} {g : Bool → Bool} (h : tE X.K XE (fun ρ W => (fk ρ W).bind fun p => ofO ((inDk ρ i p.1).map fun b => PyData.bool (g b)) p.2) σ H Q) :
    tE X.K XE fk σ H fun y H1 => tVar i σ H1 fun x H2 => ∃ a o, x = .ref a ∧ DGet H2 a y o ∧ Q (.bl (g o.isSome)) H2 := by
  obtain ⟨G, ρ, W, F, R, p⟩ := h
  refine ⟨G, ρ, W, F, R, p.of_bind.mono fun d W1 q v F1 H1 s1 R1 hv => ?_⟩
  obtain ⟨z, hz, q2⟩ := q.of_ofO
  simp only [inDk] at hz
  cases hk : dkAt ρ i with
  | none => rw [hk] at hz; cases hz
  | some kvs =>
    rw [hk] at hz
    cases d <;> try (cases hz; done)
    cases hz
    cases hv
    rename_i k
    obtain ⟨a, vs, h1, h2, h3⟩ := dk_of R1 hk
    refine ⟨_, h1, a, valV vs (.inl k), rfl, .inl ⟨vs, .inl k, h2, rfl, rfl⟩, ?_⟩
    rcases h3.find (k := k) with ⟨e1, e2⟩ | ⟨v, d, e1, e2, _⟩
    · rw [e1]; rw [e2] at q2; exact q2 _ F1 H1 s1 R1 (.bl _)
    · rw [e1]; rw [e2] at q2; exact q2 _ F1 H1 s1 R1 (.bl _)
theorem d_din {x : Str} {p2 : Pos} (hu : X.A.units + 1 < cLine) (he : PE X e (tE X.K XE fk)) (hx : PE X (.Name x p2) (tVar i)) : PE X (.Compare e [.In] [.Name x p2] pos) (tE X.K XE (eDin i fk)) :=
  (pe_cmp (pc_din hu he hx) (by rfl)).weak fun _ _ _ h => din_of (x := x) (g := fun b => b) h
theorem c_din {x : Str} {p2 : Pos} (hu : X.A.units + 1 < cLine) (he : PE X e (tE X.K XE fk)) (hx : PE X (.Name x p2) (tVar i)) : PT X (.Compare e [.In] [.Name x p2] pos) (tT X.K XE (bOf (eDin i fk))) :=
  (pt_cmp (pc_din hu he hx) (by rfl)).weak fun _ _ _ h => din_of (x := x) (g := fun b => b) (test_of h)
theorem c_dnin {x : Str} {p2 : Pos} (hu : X.A.units + 1 < cLine) (he : PE X e (tE X.K XE fk)) (hx : PE X (.Name x p2) (tVar i)) : PT X (.Compare e [.NotIn] [.Name x p2] pos) (tT X.K XE (bOf (eDnin i fk))) :=
  (pt_cmp (pc_dnotin hu he hx) (by rfl)).weak fun _ _ _ h => din_of (x := x) (g := fun b => !b) (test_of h)
theorem d_dget {x : Str} {p2 : Pos} (hu : X.A.units + 1 < cLine) (hx : PE X (.Name x p2) (tVar i)) (he : PE X e (tE X.K XE fk)) (hs : NoSl e) : PE X (.Subscript (.Name x p2) e pos) (tE X.K XE (eDget i fk)) := by
  refine (pe_dget hu hx he hs).weak fun σ H Q ⟨G, ρ, W, F, R, p⟩ => ?_
  unfold eDget at p
  cases hk : dkAt ρ i with
  | none => simp only [hk] at p; exact p.elim
  | some kvs =>
    simp only [hk] at p
    obtain ⟨a, vs, h1, h2, h3⟩ := dk_of R hk
    refine ⟨_, h1, G, ρ, W, F, R, p.of_bind.mono fun d W1 q v F1 H1 s1 R1 hv => ?_⟩
    obtain ⟨z, hz, q2⟩ := q.of_ofO
    cases d <;> try (cases hz; done)
    cases hv
    rename_i k
    obtain ⟨a', vs', h1', h2', h3'⟩ := dk_of R1 hk
    rw [h1] at h1'
    cases h1'
    have hz : valD kvs k = some z := hz
    rcases h3'.find (k := k) with ⟨e1, e2⟩ | ⟨w, d, e1, e2, e3⟩
    · rw [e2] at hz; cases hz
    · rw [e2] at hz
      cases hz
      exact ⟨a, w, rfl, .inl ⟨vs', .inl k, h2', rfl, e1.symm⟩, q2 w F1 H1 s1 R1 e3⟩
/-- for k in d, within a lock -/
theorem wd_keys {K : PySem.W.Frag} {F : Hp} {d : Addr} {o : Obj} {vs : List (Key × V)} {kvs : List (Int × Dt)} (h : F d = some (.frz o (.dK vs))) (hk : KvOk K F vs kvs) : WalkD Dq K F (Itk d o vs) (kvs.map fun kv => PyData.int kv.1) := by
  unfold WalkD
  have hl : ∀ {vs : List (Key × V)} {kvs : List (Int × Dt)}, KvOk K F vs kvs → vs.length = kvs.length := by
    intro vs kvs h
    induction h with
    | nil => rfl
    | cons _ _ ih => rw [List.length_cons, List.length_cons, ih]
  have hg : ∀ {vs : List (Key × V)} {kvs : List (Int × Dt)} {i : Nat} {k : Key} {v : V}, KvOk K F vs kvs → vs[i]? = some (k, v) → ∃ j d, k = .inl j ∧ kvs[i]? = some (j, d) := by
    intro vs kvs i k v h
    induction h generalizing i with
    | nil => intro e; simp at e
    | cons _ _ ih => intro e; cases i with
      | zero => simp at e; obtain ⟨rfl, _⟩ := e; exact ⟨_, _, rfl, rfl⟩
      | succ i => simp at e; obtain ⟨j, d, h1, h2⟩ := ih e; exact ⟨j, d, h1, by simpa using h2⟩
  rw [List.length_map, ← hl hk]
  refine Walk.mono walk_keys (fun H ⟨F2, s1, s2⟩ => s2 _ _ (s1 _ _ h)) fun i H x H' hi ⟨F2, s1, s2⟩ ⟨e, k, v, hx, ex⟩ F2' s1' s2' => ?_
  subst e
  obtain ⟨j, d, rfl, h2⟩ := hg hk hx
  subst ex
  exact ⟨F2', .int j, by simp [h2], .refl s2', .int j⟩
theorem i_dk {tg : Expr} {x : Str} {p2 : Pos} (hx : PE X (.Name x p2) (tVar i)) : PI X tg (.Name x p2) (tI Dq X.K XE (iDk i)) := by
  refine (pi_keys hx).weak fun σ H R' ⟨G, ρ, W, F, R, p⟩ => ?_
  unfold iDk at p
  split at p
  · rename_i kvs hs
    obtain ⟨v, h1, a, o, vs, rfl, h3, h4⟩ := R.sl i _ hs
    exact ⟨_, h1, a, o, rfl, .inl ⟨vs, R.fh _ _ h3, p _ F H (.refl _) R (wd_keys h3 h4)⟩⟩
  · exact p.elim
end
/-! ### locks -/
mutual
theorem dq_del {K : PySem.W.Frag} {F F' : Hp} {p : Addr} {o : Obj} {u : List (Key × V)} (h0 : F p = some (.frz o (.dK u))) (e : ∀ a, a ≠ p → F' a = F a) : ∀ (d : Dt) (v : V), Dq K F v d → Dq K F' v d
  | .none, _, h => by cases h; exact .non
  | .bool b, _, h => by cases h; exact .bl b
  | .int i, _, h => by cases h; exact .int i
  | .str x, _, h => by cases h; exact .str x
  | .list ds, _, h => by
    cases h with
    | lst hs ha =>
      rename_i a xs
      refine .lst ?_ (dqAll_del h0 e ds _ ha)
      rcases hs with z | z
      · refine .inl ?_
        have hne : a ≠ p := fun q => by
          subst q
          rcases z with z | ⟨_, z⟩ <;> (rw [h0] at z; cases z)
        unfold Rd
        rw [e a hne]
        exact z
      · exact .inr z
  | .tuple ds, _, h => by
    cases h with
    | tup hs ha hp =>
      rename_i a xs
      refine .tup ?_ (dqAll_del h0 e ds _ ha) ?_
      · rcases hs with z | z
        · refine .inl ?_
          have hne : a ≠ p := fun q => by
            subst q
            rcases z with z | ⟨_, z⟩ <;> (rw [h0] at z; cases z)
          unfold Rd
          rw [e a hne]
          exact z
        · exact .inr z
      · rcases hp with ⟨o', z1, z2⟩ | z
        · have hne : a ≠ p := fun q => by
            subst q
            rw [h0] at z1
            cases z1
          exact .inl ⟨o', by rw [e a hne]; exact z1, z2⟩
        · exact .inr z
  | .dict kvs, _, h => by
    cases h with
    | tab h1 h2 =>
      rename_i a xs
      have hne : a ≠ p := fun q => by
        subst q
        rw [h0] at h1
        unfold TabO at h1
        cases h1
      exact .tab (by rw [e a hne]; exact h1) (dqTab_del h0 e kvs _ h2)
theorem dqAll_del {K : PySem.W.Frag} {F F' : Hp} {p : Addr} {o : Obj} {u : List (Key × V)} (h0 : F p = some (.frz o (.dK u))) (e : ∀ a, a ≠ p → F' a = F a) : ∀ (ds : List Dt) (vs : List V), DqAll K F vs ds → DqAll K F' vs ds
  | [], _, h => by cases h; exact .nil
  | d :: ds, _, h => by
    cases h with
    | cons h1 h2 => exact .cons (dq_del h0 e d _ h1) (dqAll_del h0 e ds _ h2)
theorem dqTab_del {K : PySem.W.Frag} {F F' : Hp} {p : Addr} {o : Obj} {u : List (Key × V)} (h0 : F p = some (.frz o (.dK u))) (e : ∀ a, a ≠ p → F' a = F a) : ∀ (kvs : List (Dt × Dt)) (xs : List (List Key × Addr × Value)), DqTab K F xs kvs → DqTab K F' xs kvs
  | [], _, h => by cases h; exact .nil
  | (k, d) :: kvs, _, h => by
    cases h with
    | cons h1 h2 h3 h4 =>
      refine .cons ?_ h2 (dq_del h0 e d _ h3) (dqTab_del h0 e kvs _ h4)
      rcases h1 with z | z
      · refine .inl ?_
        rename_i b u v xs
        have hne : b ≠ p := fun q => by
          subst q
          rcases z with z | ⟨_, z⟩ <;> (rw [h0] at z; cases z)
        unfold Rd
        rw [e b hne]
        exact z
      · exact .inr z
end
section
variable {K : PySem.W.Frag} {G : Gh} {ρ : Sl} {W W' : Tw} {σ : L2.St} {F H F' H' : Hp} {p : Addr} {u : List (Key × V)} {od : Obj} {i : Nat} {kvs : List (Int × Dt)}
def Gh.lock (G : Gh) (i : Nat) (p : Addr) (o : HO) : Gh := { G with F0 := upd G.F0 p o, H0 := upd G.H0 p o, fp := fun j => if j = i then [] else G.fp j }
theorem tabs_un {T : List (Addr × Str)} {F H : Hp} {p : Addr} {o : Obj} {u : HO} (t : TabsF T (upd F p (.frz o u)) (upd H p (.frz o u))) : TabsF T F H := fun x hx => by
  obtain ⟨h0, ps, h1, h2, h3⟩ := t x hx
  have hP : x.1 ≠ p := fun z => by
    rw [z, upd_same] at h1
    cases h1
  refine ⟨by rw [upd_ne hP] at h0; exact h0, ps, by rw [upd_ne hP] at h1; exact h1, h2, fun pos cv e => ?_⟩
  obtain ⟨c, e1, e2⟩ := h3 pos cv e
  have hne : c ≠ p := fun z => by
    subst z
    rw [upd_same] at e2
    exact frz_code c x.2 (Option.some.inj e2)
  exact ⟨c, e1, by rw [upd_ne hne] at e2; exact e2⟩
theorem Rel.lock (R : Rel K G ρ W σ F H) (hs : ρ[i]? = some (some (.dk kvs))) (hσ : σ[i]? = some (some (.ref p))) (hp : H p = some (.dK u)) (hm : G.fp i = [p]) (hk : KvOk K F u kvs) :
    Rel K (G.lock i p (.frz od (.dK u))) (ρ.set i (some (.fd kvs))) W σ (upd F p (.frz od (.dK u))) (upd H p (.frz od (.dK u))) := by
  have hi : i < ρ.length := (List.getElem?_eq_some_iff.mp hs).1
  have hmem : p ∈ G.fp i := by rw [hm]; simp
  obtain ⟨q1, q2, q3, q4⟩ := R.fr i p hmem
  have sF : Same F (upd F p (.frz od (.dK u))) := same_new q1
  have hout : ∀ j, j ≠ i → p ∉ G.fp j := fun j hj hz => hj (R.dj j i p hz hmem)
  have hfp : ∀ j a, a ∈ (G.lock i p (.frz od (.dK u))).fp j → j ≠ i ∧ a ∈ G.fp j := fun j a ha => by
    unfold Gh.lock at ha
    simp only at ha
    by_cases hj : j = i
    · rw [if_pos hj] at ha; cases ha
    · rw [if_neg hj] at ha; exact ⟨hj, ha⟩
  refine ⟨⟨same_both R.gr.ff, same_both R.fh, fun a e => ?_, fun a o e n m => ?_, fun a e => ?_, fun t => ((R.gr.tb (tabs_un t)).ff q1 hp nt_dK).mut hp nt_dK⟩, by rw [List.length_set]; exact R.len, R.t0, fun t ht => ?_, ?_, fun j sv e => ?_, fun j k a ha hb => ?_, fun j a ha => ?_, fun e he => ?_, R.xt, (R.tb.ff q1 hp nt_dK).mut hp nt_dK, R.kk⟩
  · by_cases ha : a = p
    · subst ha; exact .inl (by unfold Gh.lock; simp only; rw [upd_same]; exact fun z => nomatch z)
    · rw [upd_ne ha] at e
      unfold Gh.lock
      simp only
      rw [upd_ne ha, upd_ne ha]
      exact R.gr.nw a e
  · unfold Gh.lock at e
    simp only at e
    by_cases ha : a = p
    · subst ha; rw [upd_same] at e ⊢; exact e
    · rw [upd_ne ha] at e ⊢; exact R.gr.kp a o e n m
  · unfold Gh.lock at e
    simp only at e
    by_cases ha : a = p
    · subst ha; rw [upd_same]; exact fun z => nomatch z
    · rw [upd_ne ha] at e ⊢; exact R.gr.th a e
  · rcases R.t1 t ht with z | z
    · exact .inl z
    · have hne : t ≠ p := fun q => q4 (by rw [← q]; exact ht)
      exact .inr (by unfold Gh.lock; simp only; rw [upd_ne hne]; exact z)
  · have t := R.tw
    revert t
    show TwOk K F H G.T W → TwOk K (upd F p _) (upd H p _) G.T W
    cases hT : G.T <;> cases W <;> intro t
    · trivial
    · exact t
    · exact t
    · rename_i tt _
      obtain ⟨tv, t1, t2, t3⟩ := t
      have hne : tt ≠ p := fun z => q4 (by rw [hT, z])
      exact ⟨tv, by rw [upd_ne hne]; exact t1, by rw [upd_ne hne]; exact t2, t3.mono sF⟩
  · by_cases hj : i = j
    · subst hj
      rw [List.getElem?_set_self hi] at e
      cases e
      exact ⟨.ref p, hσ, p, od, u, rfl, upd_same, hk.mono sF⟩
    · rw [List.getElem?_set_ne hj] at e
      obtain ⟨v, e1, e2⟩ := R.sl j sv e
      refine ⟨v, e1, ?_⟩
      unfold Gh.lock
      simp only [if_neg (Ne.symm hj)]
      exact e2.keep sF fun a o ho _ ha => by rw [upd_ne fun z => hout j (Ne.symm hj) (by rw [← z]; exact ha)]; exact ho
  · exact R.dj j k a (hfp j a ha).2 (hfp k a hb).2
  · obtain ⟨hj, ha⟩ := hfp j a ha
    have hne : a ≠ p := fun z => hout j hj (by rw [← z]; exact ha)
    obtain ⟨e1, e2, e3, e4⟩ := R.fr j a ha
    exact ⟨by rw [upd_ne hne]; exact e1, by rw [upd_ne hne]; exact e2, by unfold Gh.lock; simp only; rw [upd_ne hne]; exact e3, e4⟩
  · obtain ⟨e1, e2, e3, e4⟩ := R.ex e he
    have hne : e.1 ≠ p := fun z => e4 i (by rw [z]; exact hmem)
    exact ⟨by rw [upd_ne hne]; exact e1, by rw [upd_ne hne]; exact e2, e3, fun j hj => e4 j (hfp j _ hj).2⟩
def delH (F : Hp) (p : Addr) : Hp := fun a => if a = p then none else F a
theorem delH_ne {a : Addr} (h : a ≠ p) : delH F p a = F a := by unfold delH; rw [if_neg h]
theorem tabs_del {T : List (Addr × Str)} {F H : Hp} {p : Addr} {o : Obj} {u : HO} (hp : F p = some (.frz o u)) (t : TabsF T F H) : TabsF T (delH F p) H := fun x hx => by
  obtain ⟨h0, ps, h1, h2, h3⟩ := t x hx
  refine ⟨by unfold delH; split <;> first | rfl | exact h0, ps, h1, h2, fun pos cv e => ?_⟩
  obtain ⟨c, e1, e2⟩ := h3 pos cv e
  have hne : c ≠ p := fun z => by
    subst z
    rw [hp] at e2
    exact frz_code c x.2 (Option.some.inj e2)
  exact ⟨c, e1, by rw [delH_ne hne]; exact e2⟩
theorem Rel.unlock (R : Rel K G ρ W σ F H) (hs : ρ[i]? = some (some (.dk kvs))) (hσ : σ[i]? = some (some (.ref p))) (hp : H p = some (.dK u)) (hm : G.fp i = [p]) (hk : KvOk K F u kvs)
    (R' : Rel K (G.lock i p (.frz od (.dK u))) (ρ.set i (some (.fd kvs))) W' σ F' H') (s : Same (upd F p (.frz od (.dK u))) F') : Rel K G ρ W' σ (delH F' p) (upd H' p (.dK u)) := by
  have hi : i < ρ.length := (List.getElem?_eq_some_iff.mp hs).1
  have hmem : p ∈ G.fp i := by rw [hm]; simp
  obtain ⟨q1, q2, q3, q4⟩ := R.fr i p hmem
  have hF' : F' p = some (.frz od (.dK u)) := s _ _ upd_same
  have hout : ∀ j, j ≠ i → p ∉ G.fp j := fun j hj hz => hj (R.dj j i p hz hmem)
  have sF : Same F (delH F' p) := fun a o e => by
    have hne : a ≠ p := ne_of_none e q1
    rw [delH_ne hne]
    exact s a o (by rw [upd_ne hne]; exact e)
  have hdel : ∀ a, a ≠ p → delH F' p a = F' a := fun a h => delH_ne h
  refine ⟨⟨R.gr.ff.trans sF, fun a o e => ?_, fun a e => ?_, fun a o e n m => ?_, fun a e => ?_, fun t => tabs_del hF' ((R'.gr.tb (t.new (R.gr.ff.free q1) q3)).mut (R'.fh _ _ hF') nt_frz)⟩, R.len, R.t0, R.t1, ?_, fun j sv e => ?_, R.dj, fun j a ha => ?_, fun e he => ?_, R.xt, tabs_del hF' (R'.tb.mut (R'.fh _ _ hF') nt_frz), R.kk⟩
  · by_cases ha : a = p
    · subst ha; unfold delH at e; rw [if_pos rfl] at e; cases e
    · rw [delH_ne ha] at e; rw [upd_ne ha]; exact R'.fh a o e
  · by_cases ha : a = p
    · subst ha; unfold delH at e; rw [if_pos rfl] at e; exact absurd rfl e
    · rw [delH_ne ha] at e
      have := R'.gr.nw a e
      unfold Gh.lock at this
      simp only at this
      rw [upd_ne ha, upd_ne ha] at this
      exact this
  · have hne : a ≠ p := fun z => by rw [z, q3] at e; cases e
    rw [upd_ne hne]
    exact R'.gr.kp a o (by unfold Gh.lock; simp only; rw [upd_ne hne]; exact e) n m
  · have hne : a ≠ p := fun z => e (by rw [z]; exact q3)
    rw [upd_ne hne]
    exact R'.gr.th a (by unfold Gh.lock; simp only; rw [upd_ne hne]; exact e)
  · have t := R'.tw
    revert t
    show TwOk K F' H' G.T W' → TwOk K (delH F' p) (upd H' p _) G.T W'
    cases hT : G.T <;> cases W' <;> intro t
    · trivial
    · exact t
    · exact t
    · rename_i tt _
      obtain ⟨tv, t1, t2, t3⟩ := t
      have hne : tt ≠ p := fun z => q4 (by rw [hT, z])
      exact ⟨tv, by rw [upd_ne hne]; exact t1, by rw [delH_ne hne]; exact t2, dqAll_del hF' hdel _ _ t3⟩
  · by_cases hj : i = j
    · subst hj
      rw [hs] at e
      cases e
      exact ⟨.ref p, hσ, p, u, rfl, hm, upd_same, hk.mono sF⟩
    · obtain ⟨v, e1, e2⟩ := R'.sl j sv (by rw [List.getElem?_set_ne hj]; exact e)
      refine ⟨v, e1, ?_⟩
      obtain ⟨v2, e1', e2'⟩ := R.sl j sv e
      rw [e1] at e1'
      cases e1'
      have hfj : (G.lock i p (.frz od (.dK u))).fp j = G.fp j := by unfold Gh.lock; simp only [if_neg (Ne.symm hj)]
      rw [hfj] at e2
      cases sv with
      | d x => exact Dq.mono e2' sF
      | own xs =>
        obtain ⟨p', vs, rfl, hf, hp', ha⟩ := e2
        have hne : p' ≠ p := fun z => hout j (Ne.symm hj) (by rw [hf, ← z]; simp)
        exact ⟨p', vs, rfl, hf, by rw [upd_ne hne]; exact hp', dqAll_del hF' hdel _ _ ha⟩
      | ow2 rows =>
        obtain ⟨p', qs, rfl, hf, hp', hr, nd⟩ := e2
        have hall : ∀ a ∈ p' :: qs, a ≠ p := fun a ha z => hout j (Ne.symm hj) (by rw [hf, ← z]; exact ha)
        refine ⟨p', qs, rfl, hf, by rw [upd_ne (hall p' (by simp))]; exact hp', ?_, nd⟩
        have : ∀ {qs' : List Addr} {rs : List (List Dt)}, (∀ a ∈ qs', a ∈ qs) → Rows K F' H' qs' rs → Rows K (delH F' p) (upd H' p (.dK u)) qs' rs := by
          intro qs' rs hm r
          induction r with
          | nil => exact .nil
          | cons hq a t ih => exact .cons (by rw [upd_ne (hall _ (List.mem_cons_of_mem _ (hm _ (by simp))))]; exact hq) (dqAll_del hF' hdel _ _ a) (ih fun b hb => hm b (List.mem_cons_of_mem _ hb))
        exact this (fun _ z => z) hr
      | dk kv =>
        obtain ⟨p', vs, rfl, hf, hp', ha⟩ := e2
        obtain ⟨p2, vs2, e3, hf2, hp2, ha2⟩ := e2'
        cases e3
        have hne : p' ≠ p := fun z => hout j (Ne.symm hj) (by rw [hf, ← z]; simp)
        refine ⟨p', vs, rfl, hf, by rw [upd_ne hne]; exact hp', ?_⟩
        have : ∀ {vs : List (Key × V)} {ds : List (Int × Dt)}, KvOk K F' vs ds → KvOk K (delH F' p) vs ds := by
          intro vs ds h
          induction h with
          | nil => exact .nil
          | cons h _ ih => exact .cons (dq_del hF' hdel _ _ h) ih
        exact this ha
      | fd kv =>
        obtain ⟨p', o, vs, rfl, hp', ha⟩ := e2'
        exact ⟨p', o, vs, rfl, sF _ _ hp', ha.mono sF⟩
      | tb kv =>
        obtain ⟨p', xs, rfl, hf, hp', ha⟩ := e2
        have hne : p' ≠ p := fun z => hout j (Ne.symm hj) (by rw [hf, ← z]; simp)
        exact ⟨p', xs, rfl, hf, by rw [upd_ne hne]; exact hp', dqTab_del hF' hdel _ _ ha⟩
      | fn x =>
        obtain ⟨f, c, L, k1, k2, k3, k4⟩ := e2'
        exact ⟨f, c, L, k1, k2, sF _ _ k3, sF _ _ k4⟩
      | ex c =>
        obtain ⟨a, k1, k2⟩ := e2'
        exact ⟨a, k1, sF _ _ k2⟩
      | se L D U =>
        obtain ⟨a', p', q', rfl, hf, dx, vL, vD, vU, k1, k2, k3, k4, k5, k6, k7⟩ := e2
        have hne : ∀ x ∈ [a', p', q'], x ≠ p := fun x hx z => hout j (Ne.symm hj) (by rw [hf, ← z]; exact hx)
        exact ⟨a', p', q', rfl, hf, dx, vL, vD, vU, by rw [upd_ne (hne _ (by simp))]; exact k1, by rw [upd_ne (hne _ (by simp))]; exact k2, by rw [upd_ne (hne _ (by simp))]; exact k3, dq_del hF' hdel _ _ k4, dqAll_del hF' hdel _ _ k5, dqAll_del hF' hdel _ _ k6, k7⟩
      | town => exact e2
  · by_cases hj : j = i
    · subst hj
      rw [hm] at ha
      rw [List.mem_singleton.mp ha]
      have hn : upd H' p (.dK u) p ≠ none := by
        rw [upd_same]
        exact fun z => nomatch z
      exact ⟨by unfold delH; rw [if_pos rfl], hn, q3, q4⟩
    · have hne : a ≠ p := fun z => hout j hj (by rw [← z]; exact ha)
      obtain ⟨e1, e2, e3, e4⟩ := R'.fr j a (by unfold Gh.lock; simp only [if_neg hj]; exact ha)
      refine ⟨by rw [delH_ne hne]; exact e1, by rw [upd_ne hne]; exact e2, (R.fr j a ha).2.2.1, e4⟩
  · obtain ⟨e1, e2, e3, e4⟩ := R'.ex e he
    obtain ⟨f1, f2, f3, f4⟩ := R.ex e he
    have hne : e.1 ≠ p := fun z => f4 i (by rw [z]; exact hmem)
    exact ⟨by rw [upd_ne hne]; exact e1, by rw [delH_ne hne]; exact e2, f3, f4⟩
end
section
variable {X : Cx} {XE : Str → Hp → Prop} {e : Expr} {fl : SA} {i : Nat}
/-- a comprehension that walks a dict of its own -/
theorem lock_of {σ : L2.St} {H : Hp} {Q : VK} (h : tL X.K XE (lLock i fl) σ H Q) : tLockE (tL X.K XE fl) σ H Q := by
  obtain ⟨G, ρ, W, F, R, p⟩ := h
  unfold lLock at p
  split at p
  · rename_i kvs hs
    obtain ⟨v, h1, a, u, rfl, h2, h3, h4⟩ := R.sl i _ hs
    refine ⟨a, .dK u, h3, trivial, fun od => ⟨_, _, W, _, R.lock hs h1 h3 h2 h4, ?_⟩⟩
    cases hf : fl (ρ.set i (some (.fd kvs))) W with
    | ok r =>
      rw [hf] at p
      intro np vs F' H' s' R' fr hnp hF hv
      have hF' : F' a = some (.frz od (.dK u)) := s' _ _ upd_same
      have hne : np ≠ a := fun z => by rw [z, hF'] at hF; cases hF
      refine ⟨R'.fh _ _ hF', ?_⟩
      obtain ⟨f1, f2, f3, f4⟩ := fr
      have q1 := (R.fr i a (by rw [h2]; simp)).1
      refine p np vs (delH F' a) _ (fun b o e => ?_) (R.unlock hs h1 h3 h2 h4 R' s') ⟨?_, fun j hj => ?_, f3, f4⟩ (by rw [upd_ne hne]; exact hnp) (by rw [delH_ne hne]; exact hF) (dqAll_del hF' (fun b hb => delH_ne hb) _ _ hv)
      · have hb : b ≠ a := ne_of_none e q1
        rw [delH_ne hb]
        exact s' b o (by rw [upd_ne hb]; exact e)
      · unfold Gh.lock at f1
        simp only at f1
        rw [upd_ne hne] at f1
        exact f1
      · have := f2 j
        unfold Gh.lock at this
        simp only at this
        by_cases hj2 : j = i
        · subst hj2
          rw [h2] at hj
          exact hne (List.mem_singleton.mp hj)
        · rw [if_neg hj2] at this
          exact this hj
    | exc c => rw [hf] at p; exact p.elim
    | bad => rw [hf] at p; exact p.elim
  · exact p.elim
theorem l_lock (i : Nat) (h : PE X e (tL X.K XE fl)) : PE X e (tL X.K XE (lLock i fl)) := (pe_lock h).weak fun _ _ _ => lock_of
end
end Sx

namespace Sx
open PySem PySem.Spec PyProof.Rows L2
/-! ### what a law's derivations stand on -/
def fuelI (i : Nat) (ρ : Sl) : Nat := match ρ[i]? with
  | some (some (.d (.int n))) => n.natAbs + 1
  | _ => 0
abbrev FnP (K : PySem.W.Frag) (x : Str) (st : Stmt) (f : Addr) (fd : FuncData) : Prop := FunD K x x (defArgs st) (defBody st) (defScope st) [] [] f fd
theorem toFun {K : PySem.W.Frag} {x : Str} {st : Stmt} {f : Addr} {fd : FuncData} (F : FnP K x st f fd) : Fun K x x st f fd := by
  obtain ⟨⟨oc, od, dV, kV, doc, pm, an, cdv, ct, osl, e, h1, h2, h3, h4⟩, kp⟩ := F
  refine ⟨⟨oc, od, kV, doc, pm, an, cdv, ct, osl, ?_, h1, h2⟩, kp⟩
  rw [e]
  have h : dV = Value.none := by
    rcases h3 with ⟨_, h⟩ | h
    · exact h
    · obtain ⟨_, _, _, _, _, _, _⟩ := h
      simp_all
  rw [h]
def CalP (P : Program) (w : World) (K : PySem.W.Frag) (mg : Str → Option Value) (base : Heap) (x : Str) (k n : Nat) (ps : List Str) (Fs : List Dt → Res Dt) : Prop :=
  ∃ f fd, FnOk P w K mg base CX0 k f fd ps (spP K n Fs) ∧ mg x = some (.ref f) ∧ PySem.W.keepIn K (.ref f) = true ∧ Binds K fd ps []
def CalL (P : Program) (w : World) (K : PySem.W.Frag) (mg : Str → Option Value) (base : Heap) (x : Str) (k n : Nat) (ps : List Str) (Fs : List Dt → Res (List Dt)) : Prop :=
  ∃ f fd, FnOk P w K mg base CX0 k f fd ps (spL K n Fs) ∧ mg x = some (.ref f) ∧ PySem.W.keepIn K (.ref f) = true ∧ Binds K fd ps []
def CalT (P : Program) (w : World) (K : PySem.W.Frag) (mg : Str → Option Value) (base : Heap) (x : Str) (k n : Nat) (ps : List Str) (Fs : List Dt → List Dt → Res (Dt × List Dt)) : Prop :=
  ∃ f fd, FnOk P w K mg base CX0 k f fd ps (spT K n Fs) ∧ mg x = some (.ref f) ∧ PySem.W.keepIn K (.ref f) = true ∧ Binds K fd ps []
theorem units64 {k : Nat} {A : Around} (h : Room k A) : A.units + 64 < cLine := by have := h.un; omega
theorem units65 {k : Nat} {A : Around} (h : Room k A) : A.units + 65 < cLine := by have := h.un; omega
theorem units1 {k : Nat} {A : Around} (h : Room k A) : A.units + 1 < cLine := by have := h.un; omega
section
variable {X : Cx} {XE : Str → Hp → Prop} {x : Str} {pos : Pos}
theorem d_gint {i : Int} (hg : Gl X x) (hm : ∃ t, X.mg x = some (.int i t)) (hd : (x == ("__debug__" : Str)) = false := by decide) : PE X (.Name x pos) (tE X.K XE (eC (.int i))) := by
  obtain ⟨t, hm⟩ := hm
  exact d_c (pe_glob (v := .int i) hg hm ⟨t, rfl⟩ hd) fun _ => .int i
/-- a global tuple of ints -/
def KTup (K : PySem.W.Frag) (a : Addr) (is : List Int) : Prop := ∃ o its n, K.lookup a = some o ∧ o.cls = .type "tuple" ∧ o.data = .seq its n ∧ its.size ≤ sizeLine ∧ Vals (is.map V.int) its.toList ∧ o.dict = none
theorem ints_dq {K : PySem.W.Frag} {F : Hp} : ∀ is : List Int, DqAll K F (is.map V.int) (is.map PyData.int)
  | [] => .nil
  | i :: is => .cons (.int i) (ints_dq is)
theorem d_gtup {is : List Int} (hg : Gl X x) (hm : ∃ a, X.mg x = some (.ref a) ∧ KTup X.K a is) (hd : (x == ("__debug__" : Str)) = false := by decide) : PE X (.Name x pos) (tE X.K XE (eC (.tuple (is.map PyData.int)))) := by
  obtain ⟨a, hm, hk⟩ := hm
  exact d_c (pe_glob (v := .ref a) hg hm rfl hd) fun _ => by
    obtain ⟨o, its, n, h1, h2, h3, h4, h5, h6⟩ := hk
    exact .tup (.inr ⟨o, its, n, h1, h2, h3, h4, h5⟩) (ints_dq is) (.inr ⟨o, h1, h6⟩)
end
/-- what the derivations ask of the names -/
structure Glob (K : PySem.W.Frag) (mg : Str → Option Value) : Prop where
  len_ : mg "len" = none
  sum_ : mg "sum" = none
  all_ : mg "all" = none
  any_ : mg "any" = none
  tuple_ : mg "tuple" = none
  list_ : mg "list" = none
  abs_ : mg "abs" = none
  int_ : mg "int" = none
  str_ : mg "str" = none
  bool_ : mg "bool" = none
  max_ : mg "max" = none
  min_ : mg "min" = none
  dict_ : mg "dict" = none
  range_ : mg "range" = none
  enumerate_ : mg "enumerate" = none
  zip_ : mg "zip" = none
  sorted_ : mg "sorted" = none
  isinstance : mg "isinstance" = none
def HasMost (mg : Str → Option Value) : Prop := ∃ t, mg "MOST" = some (.int 1000000 t)
def HasZero (K : PySem.W.Frag) (mg : Str → Option Value) : Prop := ∃ a, mg "ZERO" = some (.ref a) ∧ KTup K a [0, 1]
/-! ### the head's own fact: ZERO -/
theorem exZ_ok {K : PySem.W.Frag} (h : exZ K = true) : KTup K (He.ga K "ZERO") [0, 1] := by
  unfold exZ at h
  split at h
  · rename_i o ho
    split at h
    · rename_i c its n hc hd
      simp only [Bool.and_eq_true, decide_eq_true_eq] at h
      obtain ⟨h1, h2, h3, h4⟩ := h
      subst h1
      refine ⟨o, its, n, ho, hc, hd, Nat.le_trans h2 (by decide), ?_, Option.isNone_iff_eq_none.mp h4⟩
      unfold isZ at h3
      split at h3
      · rename_i i t j u e
        rw [e]
        simp only [Bool.and_eq_true, decide_eq_true_eq] at h3
        obtain ⟨rfl, rfl⟩ := h3
        exact .cons ⟨t, rfl⟩ (.cons ⟨u, rfl⟩ .nil)
      · cases h3
    · cases h
  · cases h
end Sx

namespace Sx
open PySem PySem.Spec PyProof.Rows L2
/-! ### sorted: ints, pairs of ints -/
section
variable {α : Type} (le : α → α → Bool)
def insO (a : α) : List α → List α
  | [] => [a]
  | b :: r => if le a b then a :: b :: r else b :: insO a r
def sortO (l : List α) : List α := l.foldr (insO le) []
variable {le}
theorem insO_perm (a : α) : ∀ l : List α, (insO le a l).Perm (a :: l)
  | [] => .refl _
  | b :: r => by
    unfold insO
    split
    · exact .refl _
    · exact ((insO_perm a r).cons b).trans (.swap a b r)
theorem sortO_perm : ∀ l : List α, (sortO le l).Perm l
  | [] => .refl _
  | a :: l => (insO_perm a (sortO le l)).trans ((sortO_perm l).cons a)
theorem insO_pw (tot : ∀ a b, le a b = true ∨ le b a = true) (tr : ∀ a b c, le a b = true → le b c = true → le a c = true) (a : α) : ∀ {l : List α}, l.Pairwise (fun x y => le x y = true) → (insO le a l).Pairwise (fun x y => le x y = true)
  | [], _ => by unfold insO; simp
  | b :: r, h => by
    obtain ⟨h1, h2⟩ := List.pairwise_cons.mp h
    unfold insO
    split
    · rename_i hab
      rw [List.pairwise_cons]
      refine ⟨fun x hx => ?_, h⟩
      rcases List.mem_cons.mp hx with z | z
      · rw [z]; exact hab
      · exact tr a b x hab (h1 x z)
    · rename_i hab
      have hba : le b a = true := by rcases tot a b with z | z; exact absurd z hab; exact z
      rw [List.pairwise_cons]
      refine ⟨fun x hx => ?_, insO_pw tot tr a h2⟩
      rcases List.mem_cons.mp ((insO_perm a r).mem_iff.mp hx) with z | z
      · rw [z]; exact hba
      · exact h1 x z
theorem sortO_pw (tot : ∀ a b, le a b = true ∨ le b a = true) (tr : ∀ a b c, le a b = true → le b c = true → le a c = true) : ∀ l : List α, (sortO le l).Pairwise (fun x y => le x y = true)
  | [] => .nil
  | a :: l => insO_pw tot tr a (sortO_pw tot tr l)
theorem sort_uniq (anti : ∀ a b, le a b = true → le b a = true → a = b) : ∀ {l m : List α}, l.Pairwise (fun x y => le x y = true) → m.Pairwise (fun x y => le x y = true) → l.Perm m → l = m
  | [], m, _, _, h => (List.Perm.eq_nil h.symm).symm
  | x :: l, [], _, _, h => absurd h.length_eq (by simp)
  | x :: l, y :: m, hl, hm, h => by
    obtain ⟨l1, l2⟩ := List.pairwise_cons.mp hl
    obtain ⟨m1, m2⟩ := List.pairwise_cons.mp hm
    have e : x = y := by
      rcases List.mem_cons.mp (h.mem_iff.mp (List.mem_cons_self (a := x) (l := l))) with z | z
      · exact z
      · rcases List.mem_cons.mp (h.mem_iff.mpr (List.mem_cons_self (a := y) (l := m))) with w | w
        · exact w.symm
        · exact anti x y (l1 y w) (m1 x z)
    subst e
    rw [sort_uniq anti l2 m2 h.cons_inv]
end
abbrev leI (a b : Int) : Bool := decide (a ≤ b)
section
variable {K : PySem.W.Frag} {F H : Hp}
end
section
variable {X : Cx}
/-- a built-in that gives a new list -/
theorem l_callB {XE : Str → Hp → Prop} {e : Expr} {es : List Expr} {x : Str} {id : String} {p pos : Pos} {ga : SA} {g : List Dt → Option (List Dt)} (hc : CallR X (.builtin id) (RLC X.K g)) (hg : Gl X x) (hm : X.mg x = none) (hv : bootBuiltins x = some (.builtin id)) (ha : PA X (e :: es) (tAR X.K XE ga)) (hn : x ≠ "__name__" := by decide) (hdb : (x == ("__debug__" : Str)) = false := by decide)
    (he : starEach (e :: es) X.env = (false, eval e X.env) :: starEach es X.env := by rfl) (hpl : (backTo pos (starEach es X.env)).any (·.1) = false := by rfl) : PE X (.Call (.Name x p) (e :: es) [] pos) (tL X.K XE (lCB g ga)) := (pe_callB hc hg hm hv ha hn hdb he hpl).weak fun _ _ _ => lCB_of
end
end Sx
namespace Sx
open PySem PySem.Spec PyProof.Rows L2
section
variable {X : Cx} {XE : Str → Hp → Prop} {st : Stmt} {fe fk fl : SE} {i : Nat}
end
end Sx

namespace Sx
open PySem PySem.Spec PyProof.Rows L2
/-! ### rows of own lists -/
section
variable {K : PySem.W.Frag} {G : Gh} {ρ : Sl} {W : Tw} {σ : L2.St} {F H : Hp}
def Gh.ownL (G : Gh) (i : Nat) (L : List Addr) : Gh := { G with fp := fun j => if j = i then L else G.fp j }
theorem Gh.ownL_same (G : Gh) (i : Nat) (L : List Addr) : SameB G (G.ownL i L) := ⟨rfl, rfl, rfl, rfl, rfl⟩
theorem Rel.takeL {i : Nat} {L : List Addr} {v : V} {sv : SV} (R : Rel K G ρ W σ F H) (hi : i < ρ.length) (hf : ∀ a ∈ L, Fresh G a ∧ H a ≠ none ∧ F a = none) (hsv : SlOk K G.T F H v L sv) :
    Rel K (G.ownL i L) (ρ.set i (some sv)) W (σ.set i (some v)) F H := by
  have hne : ∀ j a, a ∈ (G.ownL i L).fp j → (j = i ∧ a ∈ L) ∨ (j ≠ i ∧ a ∈ G.fp j) := fun j a ha => by
    unfold Gh.ownL at ha
    simp only at ha
    by_cases hj : j = i
    · rw [if_pos hj] at ha; exact .inl ⟨hj, ha⟩
    · rw [if_neg hj] at ha; exact .inr ⟨hj, ha⟩
  refine ⟨R.gr, by rw [List.length_set, List.length_set]; exact R.len, R.t0, R.t1, R.tw, fun j sv e => ?_, fun j k a ha hb => ?_, fun j a ha => ?_, fun e he => ?_, R.xt, R.tb, R.kk⟩
  · by_cases hj : i = j
    · subst hj
      rw [List.getElem?_set_self hi] at e
      cases e
      exact ⟨v, List.getElem?_set_self (by rw [← R.len]; exact hi), by unfold Gh.ownL; simp only [if_true]; exact hsv⟩
    · rw [List.getElem?_set_ne hj] at e ⊢
      obtain ⟨v, h1, h2⟩ := R.sl j sv e
      exact ⟨v, h1, by unfold Gh.ownL; simp only [if_neg (Ne.symm hj)]; exact h2⟩
  · rcases hne j a ha with ⟨h1, h2⟩ | ⟨h1, h2⟩ <;> rcases hne k a hb with ⟨h3, h4⟩ | ⟨h3, h4⟩
    · rw [h1, h3]
    · exact absurd h4 ((hf a h2).1.2.1 k)
    · exact absurd h2 ((hf a h4).1.2.1 j)
    · exact R.dj j k a h2 h4
  · rcases hne j a ha with ⟨h1, h2⟩ | ⟨h1, h2⟩
    · obtain ⟨⟨f1, f2, f3, f4⟩, f5, f6⟩ := hf a h2
      exact ⟨f6, f5, f1, f3⟩
    · exact R.fr j a h2
  · obtain ⟨h1, h2, h3, h4⟩ := R.ex e he
    refine ⟨h1, h2, h3, fun j hj => ?_⟩
    rcases hne j _ hj with ⟨_, q⟩ | ⟨_, q⟩
    · exact (hf _ q).1.2.2.2 e he rfl
    · exact h4 j q
/-- slot i is let go -/
theorem Rel.drop (R : Rel K G ρ W σ F H) (i : Nat) : Rel K (G.ownL i []) (ρ.set i none) W σ F H ∧ ∀ a ∈ G.fp i, Fresh (G.ownL i []) a := by
  have hne : ∀ j a, a ∈ (G.ownL i []).fp j → j ≠ i ∧ a ∈ G.fp j := fun j a ha => by
    unfold Gh.ownL at ha
    simp only at ha
    by_cases hj : j = i
    · rw [if_pos hj] at ha; cases ha
    · rw [if_neg hj] at ha; exact ⟨hj, ha⟩
  refine ⟨⟨R.gr, by rw [List.length_set]; exact R.len, R.t0, R.t1, R.tw, fun j sv e => ?_, fun j k a ha hb => R.dj j k a (hne j a ha).2 (hne k a hb).2, fun j a ha => R.fr j a (hne j a ha).2, fun e he => ?_, R.xt, R.tb, R.kk⟩, fun a ha => ⟨(R.fr i a ha).2.2.1, fun j hj => (hne j a hj).1 (R.dj j i a (hne j a hj).2 ha), (R.fr i a ha).2.2.2, fun e he z => (R.ex e he).2.2.2 i (by rw [z]; exact ha)⟩⟩
  · by_cases hj : i = j
    · subst hj
      by_cases hi : i < ρ.length
      · rw [List.getElem?_set_self hi] at e; cases e
      · rw [List.getElem?_eq_none (by rw [List.length_set]; omega)] at e; cases e
    · rw [List.getElem?_set_ne hj] at e
      obtain ⟨v, h1, h2⟩ := R.sl j sv e
      exact ⟨v, h1, by unfold Gh.ownL; simp only [if_neg (Ne.symm hj)]; exact h2⟩
  · obtain ⟨h1, h2, h3, h4⟩ := R.ex e he
    exact ⟨h1, h2, h3, fun j hj => h4 j (hne j _ hj).2⟩
theorem Rel.freezeL : ∀ {qs : List Addr} {rows : List (List Dt)} {F : Hp}, Rel K G ρ W σ F H → Rows K F H qs rows → qs.Nodup → (∀ q ∈ qs, Fresh G q ∧ F q = none) →
    ∃ F', Same F F' ∧ Rel K G ρ W σ F' H ∧ DqAll K F' (qs.map V.ref) (rows.map PyData.list) ∧ ∀ a, a ∉ qs → F' a = F a
  | _, _, F, R, .nil, _, _ => ⟨F, .refl _, R, .nil, fun _ _ => rfl⟩
  | _, _, F, R, .cons (q := q) (qs := qs) (vs := vs) (r := r) (rs := rs) h a t, nd, hf => by
    obtain ⟨n1, n2⟩ := List.nodup_cons.mp nd
    obtain ⟨fr, hq⟩ := hf q (by simp)
    have sF : Same F (upd F q (.lst vs)) := same_new hq
    have R1 := R.freeze h hq fr
    have t1 : Rows K (upd F q (.lst vs)) H qs rs := t.keep sF fun _ _ e _ => e
    obtain ⟨F', s1, R2, d1, k1⟩ := Rel.freezeL R1 t1 n2 fun x hx => ⟨(hf x (List.mem_cons_of_mem _ hx)).1, by
      rw [upd_ne (fun z => n1 (by rw [← z]; exact hx))]; exact (hf x (List.mem_cons_of_mem _ hx)).2⟩
    refine ⟨F', sF.trans s1, R2, .cons (.lst (.inl (.inl (s1 _ _ upd_same))) (a.mono (sF.trans s1))) d1, fun x hx => ?_⟩
    rw [k1 x fun z => hx (List.mem_cons_of_mem _ z), upd_ne fun z => hx (by rw [z]; simp)]
def frz2 (i : Nat) (ρ : Sl) : Sl := match ρ[i]? with
  | some (some (.ow2 rows)) => ρ.set i (some (.d (.list (rows.map PyData.list))))
  | _ => ρ
theorem Rel.frz2 (R : Rel K G ρ W σ F H) (i : Nat) : ∃ G' F', SameB G G' ∧ Same F F' ∧ Rel K G' (frz2 i ρ) W σ F' H := by
  unfold Sx.frz2
  split
  · rename_i rows hs
    obtain ⟨v, h1, p, qs, rfl, h3, h4, h5, h6⟩ := R.sl i _ hs
    have hi : i < ρ.length := (List.getElem?_eq_some_iff.mp hs).1
    obtain ⟨R1, hfr⟩ := R.drop i
    obtain ⟨n1, n2⟩ := List.nodup_cons.mp h6
    obtain ⟨F1, s1, R2, d1, k1⟩ := R1.freezeL h5 n2 fun q hq => ⟨hfr q (by rw [h3]; exact List.mem_cons_of_mem _ hq), (R.fr i q (by rw [h3]; exact List.mem_cons_of_mem _ hq)).1⟩
    have hpF : F1 p = none := by rw [k1 p n1]; exact (R.fr i p (by rw [h3]; simp)).1
    have sF : Same F1 (upd F1 p (.lst (qs.map V.ref))) := same_new hpF
    have R3 := R2.freeze h4 hpF (hfr p (by rw [h3]; simp))
    have R4 := R3.setD (i := i) (v := .ref p) (d := .list (rows.map PyData.list)) (by rw [List.length_set]; exact hi) (.lst (.inl (.inl upd_same)) (d1.mono sF))
    rw [List.set_set] at R4
    have hσ : σ.set i (some (.ref p)) = σ := by
      refine List.ext_getElem? fun j => ?_
      by_cases hj : i = j
      · subst hj
        rw [List.getElem?_set_self (by rw [← R.len]; exact hi)]; exact h1.symm
      · rw [List.getElem?_set_ne hj]
    rw [hσ] at R4
    exact ⟨_, _, G.ownL_same i [], s1.trans sF, R4⟩
  · exact ⟨G, F, .refl _, .refl _, R⟩
end
section
variable {X : Cx} {XE : Str → Hp → Prop} {st : Stmt} {fa : SS}
theorem s_frz2 (i : Nat) (h : PS X st (tS X.K XE fa)) : PS X st (tS X.K XE (fun ρ W => fa (frz2 i ρ) W)) := by
  refine h.weak fun D σ H ⟨G, ρ, W, F, R, p⟩ => ?_
  obtain ⟨G', F', b, s, R'⟩ := R.frz2 i
  exact ⟨G', frz2 i ρ, W, F', R', p.shift b s⟩
end
/-! a comprehension that makes rows -/
def cL2 (g : SG) (e : SA) (ρ0 : Sl) : List Dt → Tw → Res (List (List Dt) × Tw)
  | [], W => .ok ([], W)
  | d :: ds, W => match g d ρ0 with
    | none => .bad
    | some ρ1 => (nox (e ρ1 W)).bind fun q => (cL2 g e ρ0 ds q.2).bind fun r => .ok (q.1 :: r.1, r.2)
def sOw2 (i : Nat) (it : SA) (g : SG) (e : SA) (vs : List Nat) : SS := fun ρ W => rOut (it ρ W) fun ds W1 => if ds.length ≤ 100000 ∧ wipeOk ρ vs = true ∧ i < ρ.length then
    rOut (nox (cL2 g e (wipeS ρ vs) ds W1)) fun rows W2 => .nx (ρ.set i (some (.ow2 rows))) W2 else .bad
theorem cL2_cases {g : SG} {e : SA} {ρ0 : Sl} {d : Dt} {ds : List Dt} {W : Tw} {zs : List (List Dt)} {Wf : Tw} (h : cL2 g e ρ0 (d :: ds) W = .ok (zs, Wf)) :
    ∃ ρ1 z W2 r, g d ρ0 = some ρ1 ∧ e ρ1 W = .ok (z, W2) ∧ cL2 g e ρ0 ds W2 = .ok (r, Wf) ∧ zs = z :: r := by
  unfold cL2 at h
  cases hg : g d ρ0 with
  | none => rw [hg] at h; cases h
  | some ρ1 =>
    simp only [hg] at h
    cases he : e ρ1 W with
    | exc x => rw [he] at h; cases h
    | bad => rw [he] at h; cases h
    | ok q =>
      obtain ⟨z, W2⟩ := q
      rw [he] at h
      simp only [nox_ok, Res.bind_ok] at h
      cases hr : cL2 g e ρ0 ds W2 with
      | exc x => rw [hr] at h; cases h
      | bad => rw [hr] at h; cases h
      | ok r =>
        rw [hr] at h
        simp only [Res.bind_ok, Res.ok.injEq, Prod.mk.injEq] at h
        obtain ⟨h1, h2⟩ := h
        exact ⟨ρ1, z, W2, r.1, rfl, he, by rw [hr, ← h2], h1.symm⟩
inductive RowE (K : PySem.W.Frag) (F : Hp) : List (Addr × HO) → List Addr → List (List Dt) → Prop
  | nil : RowE K F [] [] []
  | snoc {es : List (Addr × HO)} {qs : List Addr} {rows : List (List Dt)} {q : Addr} {vs : List V} {r : List Dt} : RowE K F es qs rows → DqAll K F vs r → RowE K F (es ++ [(q, .lst vs)]) (qs ++ [q]) (rows ++ [r])
theorem RowE.mono {K : PySem.W.Frag} {F F' : Hp} (s : Same F F') : ∀ {es : List (Addr × HO)} {qs : List Addr} {rows : List (List Dt)}, RowE K F es qs rows → RowE K F' es qs rows := fun h => by
  induction h with
  | nil => exact .nil
  | snoc _ a ih => exact .snoc ih (a.mono s)
theorem RowE.keys {K : PySem.W.Frag} {F : Hp} {es : List (Addr × HO)} {qs : List Addr} {rows : List (List Dt)} (h : RowE K F es qs rows) : qs = es.map (·.1) ∧ qs.length = rows.length := by
  induction h with
  | nil => exact ⟨rfl, rfl⟩
  | snoc _ _ ih => exact ⟨by rw [List.map_append, ← ih.1]; rfl, by rw [List.length_append, List.length_append, ih.2]; rfl⟩
theorem Rows.snoc {K : PySem.W.Frag} {F H : Hp} {q : Addr} {vs : List V} {r : List Dt} (hq : H q = some (.lst vs)) (ha : DqAll K F vs r) : ∀ {qs : List Addr} {rows : List (List Dt)}, Rows K F H qs rows → Rows K F H (qs ++ [q]) (rows ++ [r])
  | _, _, .nil => .cons hq ha .nil
  | _, _, .cons h a t => .cons h a (Rows.snoc hq ha t)
theorem RowE.rows {K : PySem.W.Frag} {F H : Hp} {es : List (Addr × HO)} {qs : List Addr} {rows : List (List Dt)} (h : RowE K F es qs rows) (hH : ∀ e ∈ es, H e.1 = some e.2) : Rows K F H qs rows := by
  induction h with
  | nil => exact .nil
  | @snoc es qs rows q vs r _ a ih => exact Rows.snoc (hH (q, .lst vs) (List.mem_append_right _ (by simp))) a (ih fun e he => hH e (List.mem_append_left _ he))
section
variable {X : Cx} {XE : Str → Hp → Prop} {it : SA} {g : SG} {e : SA} {is vs : List Nat} {i : Nat} {st : Stmt}
theorem s_ow2 {D0 : Rl} (hsub : ∀ j ∈ is, j ∈ vs) (h : PS X st (tAsg (tLc (tI D0 X.K XE it) (tG D0 X.K is g) (tT X.K X0 bYes) (tL X.K X0 e) vs) (gName i))) : PS X st (tS X.K XE (sOw2 i it g e vs)) := by
  refine h.weak fun DD σ H ⟨G, ρ, W, F, R, p⟩ => ?_
  refine ⟨G, ρ, W, F, R, p.of_rOut.mono fun ds W1 q J F1 H1 s1 R1 wk D hD => ?_⟩
  obtain ⟨⟨hlen, hok, hi⟩, q⟩ := Po.of_ite q
  have hcl : ∃ zs Wf, cL2 g e (wipeS ρ vs) ds W1 = .ok (zs, Wf) := by
    cases hz : cL2 g e (wipeS ρ vs) ds W1 with
    | ok r => exact ⟨r.1, r.2, rfl⟩
    | exc x => rw [hz] at q; exact q.elim
    | bad => rw [hz] at q; exact q.elim
  obtain ⟨zs, Wf, hcl⟩ := hcl
  rw [hcl] at q
  have fr := R1.fresh hD
  have RD : Rel X.K { G with ext := (D, .lst []) :: G.ext } (wipeS ρ vs) W1 (wipe σ vs) F1 (upd H1 D (.lst [])) :=
    ((R1.grow (Gr.newH R1.fh hD)).aside upd_same (R1.fh.free hD) fr).wiped vs
  refine lc_it wk (fun k H2 => ∃ Wi Fi es qs acc rest, Rel X.K { G with ext := (D, .lst (qs.map V.ref)) :: (es ++ G.ext) } (wipeS ρ vs) Wi (wipe σ vs) Fi H2 ∧ Same F1 Fi ∧ RowE X.K Fi es qs acc ∧ qs.Nodup ∧ (∀ q ∈ qs, Fresh G q ∧ q ≠ D) ∧ cL2 g e (wipeS ρ vs) (ds.drop k) Wi = .ok (rest, Wf) ∧ zs = acc ++ rest ∧ acc.length ≤ k)
    ⟨W1, F1, [], [], [], zs, RD, .refl _, .nil, .nil, fun q hq => (by cases hq), by rw [List.drop_zero]; exact hcl, rfl, Nat.le_refl _⟩ (fun k H2 _ ⟨Wi, Fi, _, _, _, _, Ri, si, _⟩ => ⟨Fi, si, Ri.fh⟩) ?_ ?_
  · rintro k x H2 H3 hk ⟨Wi, Fi, es, qs, acc, rest, Ri, si, da, nd, hfq, hc, hzs, hal⟩ hy
    obtain ⟨F3, d, hd, gr, hx⟩ := hy Fi si Ri.fh
    have hdrop : ds.drop k = d :: ds.drop (k + 1) := by
      obtain ⟨h1, h2⟩ := List.getElem?_eq_some_iff.mp hd
      rw [List.drop_eq_getElem_cons h1, h2]
    rw [hdrop] at hc
    obtain ⟨ρ1, z, W2, r, hg, he, hr, hz⟩ := cL2_cases hc
    have R3 := Ri.grow gr
    refine ⟨_, wipeS ρ vs, Wi, F3, d, ρ1, R3, hx, hg, fun hk σ2 hl hj R4 => ⟨wipe_eq hl hj hsub, _, ρ1, Wi, F3, R4, ?_⟩⟩
    have back : ∀ {W5 : Tw} {F5 H5 : Hp} {E : List (Addr × HO)}, Rel X.K { G with ext := E } ρ1 W5 σ2 F5 H5 → Rel X.K { G with ext := E } (wipeS ρ vs) W5 (wipe σ vs) F5 H5 := fun R5 =>
      R5.restrict (by rw [wipeS_length, wipe_length]; exact R.len) fun j sv ej => by
        obtain ⟨_, hjv⟩ := wipeS_some ej
        exact ⟨by rw [hk j fun z => hjv (hsub j z)]; exact ej, hj j fun z => hjv (hsub j z)⟩
    intro F4 H4 s4 R5
    simp only [if_true]
    refine ⟨_, ρ1, Wi, F4, R5, ?_⟩
    rw [he]
    intro np us F5 H5 s5 R6 frp hp hF hv
    have hpD : np ≠ D := fun w => frp.2.2.2 (D, .lst (qs.map V.ref)) (List.mem_cons_self ..) w.symm
    have hpq : np ∉ qs := fun w => by
      rw [da.keys.1] at w
      obtain ⟨e', he', hee⟩ := List.mem_map.mp w
      exact frp.2.2.2 e' (List.mem_cons_of_mem _ (List.mem_append_left _ he')) hee
    have hpG : Fresh G np := ⟨frp.1, frp.2.1, frp.2.2.1, fun e' he' => frp.2.2.2 e' (List.mem_cons_of_mem _ (List.mem_append_right _ he'))⟩
    have R7 := R6.aside hp hF frp
    have R8 : Rel X.K { G with ext := (D, .lst (qs.map V.ref)) :: ((es ++ [(np, .lst us)]) ++ G.ext) } ρ1 W2 σ2 F5 H5 := R7.extSub fun e' he' => by
      rcases List.mem_cons.mp he' with w | w
      · exact List.mem_cons_of_mem _ (by rw [w]; exact List.mem_cons_self ..)
      · rcases List.mem_append.mp w with w | w
        · rcases List.mem_append.mp w with w | w
          · exact List.mem_cons_of_mem _ (List.mem_cons_of_mem _ (List.mem_append_left _ w))
          · rw [List.mem_singleton.mp w]; exact List.mem_cons_self ..
        · exact List.mem_cons_of_mem _ (List.mem_cons_of_mem _ (List.mem_append_right _ w))
    obtain ⟨x1, x2, x3, x4⟩ := R8.ex (D, .lst (qs.map V.ref)) (List.mem_cons_self ..)
    have sF : Same Fi F5 := (gr.ff.trans s4).trans s5
    have hle : acc.length < 100000 := by
      have := (List.getElem?_eq_some_iff.mp hd).1
      omega
    have hnD : ∀ e' ∈ (es ++ [(np, HO.lst us)]) ++ G.ext, e'.1 ≠ D := fun e' he' => by
      rcases List.mem_append.mp he' with w | w
      · rcases List.mem_append.mp w with w | w
        · have : e'.1 ∈ qs := by rw [da.keys.1]; exact List.mem_map_of_mem w
          exact (hfq _ this).2
        · rw [List.mem_singleton.mp w]; exact hpD
      · exact fr.2.2.2 e' w
    refine ⟨qs.map V.ref, x1, Nat.lt_of_lt_of_le (by rw [List.length_map, da.keys.2]; exact hle) (sz5 (Nat.le_refl _)), W2, F5, es ++ [(np, .lst us)], qs ++ [np], acc ++ [z], r, ?_, si.trans sF, .snoc (da.mono sF) hv, ?_, fun a ha => ?_, hr, ?_, ?_⟩
    · rw [List.map_append]
      exact back (R8.setExt hnD fr.1)
    · rw [List.nodup_append]
      exact ⟨nd, by simp, fun a ha b hb => by rw [List.mem_singleton.mp hb]; exact fun w => hpq (by rw [← w]; exact ha)⟩
    · rcases List.mem_append.mp ha with w | w
      · exact hfq a w
      · rw [List.mem_singleton.mp w]; exact ⟨hpG, hpD⟩
    · rw [hzs, hz, List.append_assoc]; rfl
    · rw [List.length_append, List.length_singleton]; omega
  · rintro H2 ⟨Wi, Fi, es, qs, acc, rest, Ri, si, da, nd, hfq, hc, hzs, hal⟩
    rw [List.drop_length] at hc
    have hc : Res.ok (([] : List (List Dt)), Wi) = .ok (rest, Wf) := hc
    simp only [Res.ok.injEq, Prod.mk.injEq] at hc
    obtain ⟨hc1, hc2⟩ := hc
    subst hc1
    subst hc2
    rw [List.append_nil] at hzs
    subst hzs
    obtain ⟨x1, x2, x3, x4⟩ := Ri.ex (D, .lst (qs.map V.ref)) (List.mem_cons_self ..)
    have hE : ∀ e' ∈ es, H2 e'.1 = some e'.2 ∧ Fi e'.1 = none := fun e' he' => by
      obtain ⟨y1, y2, _⟩ := Ri.ex e' (List.mem_cons_of_mem _ (List.mem_append_left _ he'))
      exact ⟨y1, y2⟩
    have R9 : Rel X.K { G with ext := G.ext } (wipeS ρ vs) Wi (wipe σ vs) Fi H2 := Ri.extSub fun e' he' => List.mem_cons_of_mem _ (List.mem_append_right _ he')
    have R10 := R1.unwiped R9 si hok
    have R11 := R10.takeL (i := i) (L := D :: qs) (v := .ref D) (sv := .ow2 zs) hi (fun a ha => by
      rcases List.mem_cons.mp ha with w | w
      · rw [w]; exact ⟨fr, (by rw [x1]; exact fun z => nomatch z), x2⟩
      · have hw := w
        rw [da.keys.1] at w
        obtain ⟨e', he', hee⟩ := List.mem_map.mp w
        obtain ⟨y1, y2⟩ := hE e' he'
        rw [← hee]
        rw [← hee] at hw
        exact ⟨(hfq _ hw).1, (by rw [y1]; exact fun z => nomatch z), y2⟩) ⟨D, qs, rfl, rfl, x1, da.rows fun e' he' => (hE e' he').1, List.nodup_cons.mpr ⟨fun w => (hfq D w).2 rfl, nd⟩⟩
    exact q _ _ Fi H2 (G.ownL_same i (D :: qs)) (s1.trans si) R11
end
/-! reading and writing an item of a row -/
def rowAt (rows : List (List Dt)) : Dt → Option (List Dt)
  | .int a => atI rows a
  | _ => none
def eIx2 (i : Nat) (fk fl : SE) : SE := fun ρ W => match ρ[i]? with
  | some (some (.ow2 rows)) => (fk ρ W).bind fun p => (ofO (rowAt rows p.1) p.2).bind fun r => (fl ρ r.2).bind fun q => ofO (ixD (.list r.1) q.1) q.2
  | _ => .bad
def putRow (rows : List (List Dt)) (k : Dt) (r : List Dt) : List (List Dt) := match k with
  | .int a => match ixN rows.length a with
    | some j => rows.set j r
    | none => rows
  | _ => rows
def nx2 (i : Nat) (o : Option (List Dt)) (rows : List (List Dt)) (k : Dt) (ρ : Sl) (W : Tw) : Out := match o with
  | some r => .nx (ρ.set i (some (.ow2 (putRow rows k r)))) W
  | none => .bad
def sSet3 (i : Nat) (fk fl fe : SE) : SS := fun ρ W => match ρ[i]? with
  | some (some (.ow2 rows)) => rOut (fe ρ W) fun d W1 => rOut (fk ρ W1) fun kd W2 => rOut (ofO (rowAt rows kd) W2) fun r W3 => rOut (fl ρ W3) fun ld W4 => nx2 i (setD r ld d) rows kd ρ W4
  | _ => .bad
theorem Rows.get {K : PySem.W.Frag} {F H : Hp} {r : List Dt} : ∀ {qs : List Addr} {rows : List (List Dt)} {j : Nat}, Rows K F H qs rows → rows[j]? = some r → ∃ q vs, qs[j]? = some q ∧ H q = some (.lst vs) ∧ DqAll K F vs r
  | _, _, _, .nil, h => by simp at h
  | _, _, 0, .cons hq ha t, h => by
    simp at h
    subst h
    exact ⟨_, _, rfl, hq, ha⟩
  | _, _, j + 1, .cons hq ha t, h => by
    obtain ⟨q, vs, h1, h2, h3⟩ := Rows.get t (by simpa using h)
    exact ⟨q, vs, by simpa using h1, h2, h3⟩
theorem Rows.length {K : PySem.W.Frag} {F H : Hp} : ∀ {qs : List Addr} {rows : List (List Dt)}, Rows K F H qs rows → qs.length = rows.length
  | _, _, .nil => rfl
  | _, _, .cons _ _ t => by rw [List.length_cons, List.length_cons, t.length]
theorem Rows.mut {K : PySem.W.Frag} {F H : Hp} {q : Addr} {us : List V} {r : List Dt} (hd : DqAll K F us r) : ∀ {qs : List Addr} {rows : List (List Dt)} {j : Nat}, Rows K F H qs rows → qs.Nodup → qs[j]? = some q → Rows K F (upd H q (.lst us)) qs (rows.set j r)
  | _, _, _, .nil, _, h => by simp at h
  | _, _, 0, .cons (q := q0) (qs := qs) hq ha t, nd, h => by
    have h : q0 = q := by simpa using h
    rw [h] at nd ⊢
    obtain ⟨n1, n2⟩ := List.nodup_cons.mp nd
    refine .cons upd_same hd ?_
    have : ∀ {qs' : List Addr} {rs : List (List Dt)}, (∀ a ∈ qs', a ≠ q) → Rows K F H qs' rs → Rows K F (upd H q (.lst us)) qs' rs := by
      intro qs' rs hm r
      induction r with
      | nil => exact .nil
      | cons hq a t ih => exact .cons (by rw [upd_ne (hm _ (by simp))]; exact hq) a (ih fun b hb => hm b (List.mem_cons_of_mem _ hb))
    exact this (fun a ha e => n1 (by rw [← e]; exact ha)) t
  | _, _, j + 1, .cons (qs := qs) hq ha t, nd, h => by
    obtain ⟨n1, n2⟩ := List.nodup_cons.mp nd
    have h : qs[j]? = some q := by simpa using h
    have hm := List.mem_of_getElem? h
    refine .cons (by rw [upd_ne fun e => n1 (by rw [e]; exact hm)]; exact hq) ha ?_
    exact Rows.mut hd t n2 h
theorem Rows.has {K : PySem.W.Frag} {F H : Hp} {q : Addr} : ∀ {qs : List Addr} {rs : List (List Dt)}, Rows K F H qs rs → q ∈ qs → ∃ vs, H q = some (.lst vs)
  | _, _, .nil, h => by cases h
  | _, _, .cons h _ t, hm => by
    rcases List.mem_cons.mp hm with z | z
    · exact ⟨_, by rw [z]; exact h⟩
    · exact Rows.has t z
section
variable {K : PySem.W.Frag} {G : Gh} {ρ : Sl} {W : Tw} {σ : L2.St} {F H : Hp}
/-- a row of slot i's is changed -/
theorem Rel.mutRow {i j : Nat} {p q : Addr} {qs : List Addr} {rows : List (List Dt)} {r : List Dt} {us : List V} (R : Rel K G ρ W σ F H) (hs : ρ[i]? = some (some (.ow2 rows))) (hσ : σ[i]? = some (some (.ref p))) (hfp : G.fp i = p :: qs) (hq : qs[j]? = some q) (hd : DqAll K F us r) :
    Rel K G (ρ.set i (some (.ow2 (rows.set j r)))) W σ F (upd H q (.lst us)) := by
  obtain ⟨v, h1, p', qs', h2, h3, h4, h5, h6⟩ := R.sl i _ hs
  rw [hσ] at h1
  cases h1
  cases h2
  rw [hfp] at h3
  cases h3
  have hi : i < ρ.length := (List.getElem?_eq_some_iff.mp hs).1
  have hqm := List.mem_of_getElem? hq
  have hm : q ∈ G.fp i := by rw [hfp]; exact List.mem_cons_of_mem _ hqm
  obtain ⟨n1, n2⟩ := List.nodup_cons.mp h6
  obtain ⟨q1, q2, q3, q4⟩ := R.fr i q hm
  obtain ⟨wq, hwq⟩ := h5.has hqm
  refine ⟨⟨R.gr.ff, same_mut R.fh q1, R.gr.nw, fun a u e n m => ?_, fun a e => ?_, fun t => (R.gr.tb t).mut hwq nt_lst⟩, by rw [List.length_set]; exact R.len, R.t0, R.t1, ?_, fun j sv e => ?_, R.dj, fun j a ha => ?_, fun e he => ?_, R.xt, R.tb.mut hwq nt_lst, R.kk⟩
  · rw [upd_ne (fun z => by rw [z, q3] at e; cases e)]
    exact R.gr.kp a u e n m
  · by_cases ha : a = q
    · subst ha; rw [upd_same]; exact fun z => nomatch z
    · rw [upd_ne ha]; exact R.gr.th a e
  · have t := R.tw
    revert t
    cases hT : G.T <;> cases W <;> intro t
    · trivial
    · exact t
    · exact t
    · obtain ⟨tv, h1, h2, h3⟩ := t
      exact ⟨tv, by rw [upd_ne (fun z => q4 (by rw [hT, z]))]; exact h1, h2, h3⟩
  · by_cases hj : i = j
    · subst hj
      rw [List.getElem?_set_self hi] at e
      cases e
      exact ⟨.ref p, hσ, p, qs, rfl, hfp, by rw [upd_ne fun z => n1 (by rw [z]; exact hqm)]; exact h4, h5.mut hd n2 hq, h6⟩
    · rw [List.getElem?_set_ne hj] at e
      obtain ⟨v, h1, h2⟩ := R.sl j sv e
      exact ⟨v, h1, h2.keep (.refl _) fun a o ho _ ha => by rw [upd_ne fun z => hj (R.dj i j q hm (by rw [← z]; exact ha))]; exact ho⟩
  · obtain ⟨h1, h2, h3, h4⟩ := R.fr j a ha
    refine ⟨h1, ?_, h3, h4⟩
    by_cases hz : a = q
    · subst hz; rw [upd_same]; exact fun z => nomatch z
    · rw [upd_ne hz]; exact h2
  · obtain ⟨h1, h2, h3, h4⟩ := R.ex e he
    exact ⟨by rw [upd_ne (fun z => h4 i (by rw [z]; exact hm))]; exact h1, h2, h3, h4⟩
end
section
variable {X : Cx} {XE : Str → Hp → Prop} {st : Stmt} {e b c : Expr} {fe fk fl : SE} {pos : Pos} {i : Nat}
theorem row_at {rows : List (List Dt)} {a : Int} {r : List Dt} {K : PySem.W.Frag} {F H : Hp} {qs : List Addr} (h : atI rows a = some r) (hr : Rows K F H qs rows) : ∃ j q vs, ixN rows.length a = some j ∧ rows[j]? = some r ∧ qs[j]? = some q ∧ atI (qs.map V.ref) a = some (.ref q) ∧ H q = some (.lst vs) ∧ DqAll K F vs r := by
  unfold atI at h
  cases hj : ixN rows.length a with
  | none => rw [hj] at h; cases h
  | some j =>
    rw [hj] at h
    have h : rows[j]? = some r := h
    obtain ⟨q, vs, h1, h2, h3⟩ := hr.get h
    refine ⟨j, q, vs, rfl, h, h1, ?_, h2, h3⟩
    unfold atI
    rw [List.length_map, hr.length, hj]
    show (qs.map V.ref)[j]? = _
    rw [List.getElem?_map, h1]; rfl
theorem d_ix2 {x : Str} {p2 p3 : Pos} (hx : PE X (.Name x p2) (tVar i)) (hb : PE X b (tE X.K XE fk)) (hs : PlainIx b) (hc : PE X c (tE X.K XE fl)) (hs2 : PlainIx c) : PE X (.Subscript (.Subscript (.Name x p2) b p3) c pos) (tE X.K XE (eIx2 i fk fl)) := by
  refine (pe_ix ix_list (pe_ix ix_list hx hb hs) hc hs2).weak fun σ H Q ⟨G, ρ, W, F, R, p⟩ => ?_
  unfold eIx2 at p
  split at p
  · rename_i rows hs
    obtain ⟨v', h1, pp, qs, rfl, h3, h4, h5, h6⟩ := R.sl i _ hs
    refine ⟨_, h1, G, ρ, W, F, R, p.of_bind.mono fun kd W1 q kv F1 H1 s1 R1 hk => ?_⟩
    obtain ⟨v1, k1, pp1, qs1, e1, k3, k4, k5, k6⟩ := R1.sl i _ hs
    rw [h1] at k1
    cases k1
    cases e1
    rw [h3] at k3
    cases k3
    obtain ⟨r, hr, q⟩ := Pg.of_ofO q.of_bind
    cases kd <;> simp only [rowAt] at hr <;> try (cases hr; done)
    cases hk
    obtain ⟨j, rq, vs, r1, r2, r3, r4, r5, r6⟩ := row_at hr k5
    refine ⟨pp, _, _, .ref rq, rfl, rfl, SqL.of k4, r4, G, ρ, W1, F1, R1, q.of_bind.mono fun ld W2 q2 lv F2 H2 s2 R2 hl => ?_⟩
    obtain ⟨z, hz, q3⟩ := Pg.of_ofO q2
    obtain ⟨v2, m1, pp2, qs2, e2, m3, m4, m5, m6⟩ := R2.sl i _ hs
    rw [h1] at m1
    cases m1
    cases e2
    rw [h3] at m3
    cases m3
    obtain ⟨rq', vs', u1, u2, u3⟩ := m5.get r2
    rw [r3] at u1
    cases u1
    cases ld <;> simp only [ixD] at hz <;> try (cases hz; done)
    cases hl
    obtain ⟨w, w1, w2⟩ := atI_all u3 hz
    exact ⟨rq, vs', _, w, rfl, rfl, SqL.of u2, w1, q3 w F2 H2 (s1.trans s2) R2 w2⟩
  · exact p.elim
theorem s_set3 (h : PS X st (tAsg (tE X.K XE fe) (gSub (tOp (rIxL X.K) (tVar i) (tE X.K XE fk)) (tE X.K XE fl) rSetL))) : PS X st (tS X.K XE (sSet3 i fk fl fe)) := by
  refine h.weak fun D σ H ⟨G, ρ, W, F, R, p⟩ => ?_
  unfold sSet3 at p
  split at p
  · rename_i rows hs
    refine ⟨G, ρ, W, F, R, p.of_rOut.mono fun d W1 q v F1 H1 s1 R1 hv => ?_⟩
    obtain ⟨v', h1, pp, qs, rfl, h3, h4, h5, h6⟩ := R1.sl i _ hs
    refine ⟨_, h1, G, ρ, W1, F1, R1, q.of_rOut.mono fun kd W2 q2 kv F2 H2 s2 R2 hk => ?_⟩
    obtain ⟨v1, k1, pp1, qs1, e1, k3, k4, k5, k6⟩ := R2.sl i _ hs
    rw [h1] at k1
    cases k1
    cases e1
    rw [h3] at k3
    cases k3
    obtain ⟨r, hr, q2⟩ := Pg.of_ofO q2.of_rOut
    cases kd <;> simp only [rowAt] at hr <;> try (cases hr; done)
    rename_i ki _
    cases hk
    obtain ⟨j, rq, vs, r1, r2, r3, r4, r5, r6⟩ := row_at hr k5
    refine ⟨pp, _, _, .ref rq, rfl, rfl, SqL.of k4, r4, G, ρ, W2, F2, R2, q2.of_rOut.mono fun ld W3 q3 lv F3 H3 s3 R3 hl => ?_⟩
    obtain ⟨v2, m1, pp2, qs2, e2, m3, m4, m5, m6⟩ := R3.sl i _ hs
    rw [h1] at m1
    cases m1
    cases e2
    rw [h3] at m3
    cases m3
    obtain ⟨rq', vs', u1, u2, u3⟩ := m5.get r2
    rw [r3] at u1
    cases u1
    cases hsd : setD r ld d with
    | none => rw [hsd] at q3; exact q3.elim
    | some ys =>
      rw [hsd] at q3
      obtain ⟨n, jj, rfl, hj, hall⟩ := setD_all hsd u3 (hv.mono (s2.trans s3))
      cases hl
      have R4 := R3.mutRow hs h1 h3 r3 hall
      have hput : putRow rows (.int ki) ys = rows.set j ys := by
        unfold putRow
        simp only [r1]
      refine ⟨rq, vs', n, jj, rfl, rfl, u2, hj, ?_⟩
      rw [← hput] at R4
      exact q3 G σ F3 _ (.refl _) ((s1.trans s2).trans s3) R4
  · exact p.elim
end
end Sx

/-! Sx16: lambdas with parameters, nothing captured. -/
namespace Sx
open PySem PySem.Spec PyProof.Rows L2 LamX
section
variable {X : Cx} {pins : List (Addr × Obj)} {σ : L2.St} {F H : Hp} {s : Shared}
theorem inv_lam {L : LF} {c : Addr} {t' : Nat} {pm ctv : Value} (I : Inv X pins σ H s) :
    Inv X pins σ (upd H s.heap.objs.size (LamO s.heap.objs.size c L)) { s with heap := s.heap.push (PySem.W.kla_obj "<lambda>" L.q L.params L.body L.scope [] pm c ctv), toks := t' } := by
  refine I.laid (a := s.heap.objs.size) (fun b u e => Heap.get?_push_of_some _ e) (Nat.le_refl _) ?_
  have e : (s.heap.push (PySem.W.kla_obj "<lambda>" L.q L.params L.body L.scope [] pm c ctv)).get? s.heap.objs.size = some (PySem.W.kla_obj "<lambda>" L.q L.params L.body L.scope [] pm c ctv) := Heap.get?_push_size _ rfl
  exact ⟨⟨pm, ctv, e⟩, ⟨_, e⟩, fun h1 h2 ⟨p, t, z⟩ st => ⟨p, t, st _ z⟩⟩
theorem same_table {P c : Addr} {ps : Array Value} {o : HO} {u : HO} (sm : Same F H) (hP : H P = some (.tbl ps)) (fP : F P = none) (nC : H c = none) : Same (upd F c o) (upd (upd H P u) c o) := fun b x e => by
  by_cases hb : b = c
  · subst hb; rw [upd_same] at e ⊢; exact e
  · rw [upd_ne hb] at e ⊢
    rw [upd_ne (ne_of_none e fP)]
    exact sm b x e
theorem gr_table {K : PySem.W.Frag} {P c : Addr} {ps : Array Value} {q : Str} {pos : Pos} (sm : Same F H) (hm : (P, q) ∈ tabsOf K) (hu : ∀ p ∈ tabsOf K, p.1 = P → p.2 = q) (hP : H P = some (.tbl ps)) (fP : F P = none) (ht : TriplesOk ps.toList) (nC : H c = none) :
    Gr0 K F H (upd F c (CodeO c q)) (upd (upd H P (.tbl (ps ++ #[rawInt pos.line, rawInt pos.col, .ref c]))) c (CodeO c q)) := by
  have nPc : P ≠ c := ne_of_none hP nC
  have sF : Same F (upd F c (CodeO c q)) := same_new (sm.free nC)
  refine ⟨sF, same_table sm hP fP nC, fun a e => ?_, fun a o e _ nt => ?_, fun a e => ?_, fun t x hx => ?_⟩
  · by_cases ha : a = c
    · subst ha; exact .inr nC
    · rw [upd_ne ha] at e; exact .inl e
  · rw [upd_ne (ne_of_none e nC), upd_ne (fun z => nt ps (by rw [z, hP] at e; exact (Option.some.inj e).symm))]
    exact e
  · by_cases ha : a = c
    · subst ha; rw [upd_same]; exact fun z => nomatch z
    · rw [upd_ne ha]
      by_cases hb : a = P
      · subst hb; rw [upd_same]; exact fun z => nomatch z
      · rw [upd_ne hb]; exact e
  · by_cases hb : x.1 = P
    · obtain ⟨h0, ps', h1, h2, h3⟩ := t x hx
      rw [hb, hP] at h1
      cases h1
      have eL : (ps ++ #[rawInt pos.line, rawInt pos.col, .ref c]).toList = ps.toList ++ [rawInt pos.line, rawInt pos.col, .ref c] := by simp
      rw [hu x hx hb] at h3 ⊢
      rw [hb] at h0 ⊢
      refine ⟨by rw [upd_ne nPc]; exact h0, _, by rw [upd_ne nPc, upd_same], by rw [eL]; exact PySem.TriplesOk_snoc _ _ _ _ ht, fun p' cv hcv => ?_⟩
      rw [eL] at hcv
      rcases among_app _ ht hcv with z | z
      · obtain ⟨c0, e1, e2⟩ := h3 p' cv z
        exact ⟨c0, e1, sF _ _ e2⟩
      · exact ⟨c, z, upd_same⟩
    · refine (t x hx).grow sF (fun ps' e n => by rw [upd_ne (ne_of_none e nC)]; exact n) fun ps' e => by
        rw [upd_ne (ne_of_none e nC), upd_ne hb]; exact e
/-- the lambda is made -/
theorem lam_make3 {c P : Addr} {params : Arguments} {body : Expr} {scope : Scope} {pos : Pos} {E : Value → Shared → Prop} {Q : Value → Shared → Prop} (I : Inv X pins σ H s) (sm : Same F H) (TB : TabB X.base X.mg c P) (hcode : X.env.code = .ref c)
    (hm : (P, X.env.qual ++ "<lambda>") ∈ tabsOf X.K) (hu : ∀ p ∈ tabsOf X.K, p.1 = P → p.2 = X.env.qual ++ "<lambda>") (hT : TabsF (tabsOf X.K) F H) (hdef : defaultsOf params X.env = ([], [])) (hfree : ∀ y ∈ scope.names, y.2 ≠ .free)
    (hcl : cloFrom X.env.cells scope.names [] = [])
    (h : ∀ (f c' : Addr) (F1 H1 : Hp) (s' : Shared), Inv X pins σ H1 s' → Gr0 X.K F H F1 H1 → F1 f = some (LamO f c' ⟨X.env.qual ++ "<lambda>", params, body, scope⟩) → F1 c' = some (CodeO c' (X.env.qual ++ "<lambda>")) → Q (.ref f) s') :
    wpAny (model X.prog X.w) X.A (eval (.Lambda params body scope pos) X.env) Q E s := by
  obtain ⟨fP, ps, hP, ht, ha⟩ := hT _ hm
  simp only at fP hP ha
  refine PySem.W.kla_eval hdef ?_
  have bP : s.heap.BuiltinsAt X.mg P := TB.bm.keeps I.bk
  have hP' : s.heap.get? P = some { cls := .none, data := .fields ps } := I.hok P _ hP
  have hcf : closureFor scope X.env = pure [] := by
    have := closure_ok (env := X.env) (scope := scope) fun y hy e => absurd e (hfree y hy)
    rw [hcl] at this
    exact this
  cases hc : codeAmong pos ps.toList with
  | none =>
    refine PySem.W.kla_makeFunction (mg := X.mg) (c := c) (P := P) (ps := ps) hcf I.ok.glob (I.mod.glob.keeps I.bk) hcode (TB.code.keeps I.bk) hP' ht hc TB.gP bP fun c' ctv h' tk hx hge hlt hrec htb => ?_
    obtain ⟨c2, oc, vs, t, e2, hoc, hd, hv⟩ := hrec
    cases e2
    have nC : H c' = none := I.hok.fresh hge
    have I1 := inv_table (t' := tk) (more := #[rawInt pos.line, rawInt pos.col, .ref c']) (h' := h') I hP (fun b o hb e => hx b o hb e) htb hge ⟨oc, vs, t, hoc, hd, hv⟩
    have nF := I1.hok.fresh (Nat.le_refl _)
    have I2 := inv_lam (L := ⟨X.env.qual ++ "<lambda>", params, body, scope⟩) (c := c') (t' := tk) (pm := (X.mg "__name__").getD .none) (ctv := ctv) I1
    refine h h'.objs.size c' (upd (upd F c' (CodeO c' (X.env.qual ++ "<lambda>"))) h'.objs.size (LamO h'.objs.size c' ⟨X.env.qual ++ "<lambda>", params, body, scope⟩)) _ _ I2 ((gr_table sm hm hu hP fP ht nC).trans (.new (same_table sm hP fP nC) nF)) upd_same ?_
    rw [upd_ne (Nat.ne_of_lt hlt), upd_same]
  | some cv =>
    obtain ⟨c', e, hco⟩ := ha pos cv hc
    subst e
    refine PySem.W.kla_makeFunctionHit (mg := X.mg) (c := c) (P := P) (ps := ps) hcf I.ok.glob (I.mod.glob.keeps I.bk) hcode (TB.code.keeps I.bk) hP' ht hc bP fun ctv h' tk hx hsz => ?_
    have I1 : Inv X pins σ H { s with heap := h', toks := tk } := I.kept hx
    have nF : H h'.objs.size = none := I1.hok.fresh (Nat.le_refl _)
    have I2 := inv_lam (L := ⟨X.env.qual ++ "<lambda>", params, body, scope⟩) (c := c') (t' := tk) (pm := (X.mg "__name__").getD .none) (ctv := ctv) I1
    have sF : Same F (upd F h'.objs.size (LamO h'.objs.size c' ⟨X.env.qual ++ "<lambda>", params, body, scope⟩)) := same_new (sm.free nF)
    exact h h'.objs.size c' (upd F h'.objs.size (LamO h'.objs.size c' ⟨X.env.qual ++ "<lambda>", params, body, scope⟩)) _ _ I2 (.new sm nF) upd_same (sF _ _ hco)
end
end Sx

/-! Sx17: lambdas called, handed on. -/
namespace Sx
open PySem PySem.Spec PyProof.Rows L2 LamX
abbrev LF.nf (L : LF) (c : Addr) : NdefX.NF := ⟨"<lambda>", L.q, L.params, [], L.scope, [], c⟩
/-- what a lambda promises, wherever it lies -/
structure LamOk (P : Program) (w : World) (K : PySem.W.Frag) (mg : Str → Option Value) (base : Heap) (k : Nat) (L : LF) (ps : List Str) (sp : Sp) : Prop where
  len : ∀ vs H Q E, sp vs H Q E → vs.length = ps.length
  run : ∀ (A : Around) (outer : List Env) (s : Shared) (H : Hp) (us : List Value) (vs : List V) (Q : VK) (E : XK) (f c : Addr), Room k A → Env0 P w K mg base A outer s H → H f = some (LamO f c L) → H c = some (CodeO c L.q) →
    Vals vs us → sp vs H Q E → codeAny (model P w) A (.call (.ref f) ⟨us, []⟩) (CR CX0 outer P w H s Q E) s
/-- the lambda of the def x promises g -/
def LamAll (P : Program) (w : World) (K : PySem.W.Frag) (mg : Str → Option Value) (base : Heap) (x : Str) (k n : Nat) (g : List Dt → Res Dt) : Prop := ∀ L, lamOf K x = some L → ∃ ps, LamOk P w K mg base k L ps (spP K n g)
def runE (m : Nat) (fe : SE) (ds : List Dt) : Res Dt := match fe (start0 m ds) none with
  | .ok p => .ok p.1
  | .exc c => .exc c
  | .bad => .bad
section
variable {P : Program} {w : World} {K : PySem.W.Frag} {mg : Str → Option Value} {base : Heap} {N ps : List Str} {L : LF} {k n : Nat} {fe : SE}
theorem lam_ok (S : NdefX.NScope N ps [] L.scope) (hb : ∀ (pm ctv : Value) (c : Addr) (us : List Value), us.length = ps.length → bindArgs (PySem.W.kla_fn "<lambda>" L.q L.params L.body L.scope [] pm (.ref c) ctv) ⟨us, []⟩ = pure (ps.zip us)) (hn : ps.length = n)
    (hbody : ∀ (A : Around) (outer : List Env) (s : Shared) (H : Hp) (E : XK) (f c : Addr), Room k (A.deeper (NdefX.envF (L.nf c) f s.heap.objs.size)) → PE (NdefX.ncx CX0 P w K mg base N (L.nf c) f A outer s H E).nox L.body (tE K X0 fe)) :
    LamOk P w K mg base (k + 1) L ps (spP K n (runE N.length fe)) := by
  have len : ∀ vs H Q E, spP K n (runE N.length fe) vs H Q E → vs.length = ps.length := fun vs H Q E h => by
    obtain ⟨Fz, ds, _, _, hd, hl, _⟩ := h
    rw [hd.length, hl, hn]
  refine ⟨len, fun A outer s H us vs Q E f c hr e0 hf hc r hsp => ?_⟩
  have hl := len _ _ _ _ hsp
  have lim : s.heap.NoLimit := e0.mod.nolimit.keeps fun b o e => (e0.bs b o e).1
  obtain ⟨⟨pm, ctv, ho⟩, _, _⟩ := e0.hok f _ hf
  refine PySem.W.kla_callFunE hr.depth ho rfl S.co S.gen rfl (NdefX.codeO_at e0.hok hc) ?_
  rw [hb pm ctv c us (by rw [← r.length]; exact hl)]
  refine wpAny_pure (wpAny_newFunctionEnv S.nocell (fun ⟨n, _⟩ hy => S.par n (List.of_mem_zip hy).1) (fun h₁ hns hsb => ⟨lim.fresh _ hsb, ?_⟩) S.kind)
  show codeAny _ _ (.expr L.body (NdefX.envF (L.nf c) f s.heap.objs.size)) _ _
  have kp : ∀ b o, s.heap.get? b = some o → h₁.get? b = some o := fun b o e => hsb.extBut b o (Nat.ne_of_lt (Heap.lt_size e)) (Heap.get?_push_of_some _ e)
  have C : NdefX.CellsAt (L.nf c).cl [] [] s.heap H := ⟨rfl, fun y c e => (by cases e), fun x y c e => (by cases e), fun i y e => (by simp at e)⟩
  have I : Inv (NdefX.ncx CX0 P w K mg base N (L.nf c) f A outer s H E) [] (NdefX.startF N vs []) H { s with heap := h₁, toks := s.toks + (ps.zip us).length } := NdefX.inv_startN S hr.hd e0 hl r C hns kp
  obtain ⟨Fz, ds, sm, tb, hd, hl2, hm⟩ := hsp
  have e : NdefX.startF N vs [] = vs.map some ++ List.replicate (N.length - ds.length) none := by
    unfold NdefX.startF
    rw [hd.length]
    rfl
  rw [e] at I
  refine PySem.W.kla_codeExpr (wpAny_mono ((hbody A outer s H E f c (hr.deeper _)).nox.run [] _ _ H Q I ?_) (fun v s' hq => ?_) fun e s' hq => hq)
  · refine ⟨_, start0 N.length ds, none, Fz, Rel.start sm tb hd, ?_⟩
    unfold runE at hm
    cases hB : fe (start0 N.length ds) none with
    | ok p =>
      rw [hB] at hm
      exact fun v F' H' s R hv => hm v F' H' (R.gr.mono fun _ z => nomatch z) hv
    | exc c => rw [hB] at hm; exact hm.elim
    | bad => rw [hB] at hm; exact hm.elim
  · obtain ⟨w', H', J', rv, q⟩ := hq
    exact ⟨w', H', J'.os, J'.bare, J'.base, J'.hok, rv, q⟩
end
/-! ### the slot's function is called -/
def eCallF (i : Nat) (x : Str) (n : Nat) (g : List Dt → Res Dt) (a : SA) : SE := fun ρ W => match ρ[i]? with
  | some (some (.fn y)) => if y = x then eCall n g a ρ W else .bad
  | _ => .bad
section
variable {X : Cx} {XE : Str → Hp → Prop} {e a : Expr} {es : List Expr} {pos p : Pos} {fa : SE} {ga : SA} {k n i : Nat} {ps : List Str} {x nm : Str} {g : List Dt → Res Dt}
theorem lamAt_of {pins : List (Addr × Obj)} {σ : L2.St} {H : Hp} {s : Shared} {f c : Addr} {L : LF} (I : Inv X pins σ H s) (e : H f = some (LamO f c L)) : PySem.W.FnAt f s.heap := by
  obtain ⟨⟨pm, ctv, ho⟩, _, _⟩ := I.hok f _ e
  exact ⟨_, _, _, _, ho⟩
theorem d_callF (Fn : LamAll X.prog X.w X.K X.mg X.base x k n g) (hr : Room k X.A) (hN : X.N[i]? = some nm) (hv : Vis X.env.scope nm) (ha : PA X (e :: es) (tA X.K XE ga))
    (hd : (nm == ("__debug__" : Str)) = false := by decide) (hcd : (nm == ("__classdict__" : Str)) = false := by decide)
    (he : starEach (e :: es) X.env = (false, eval e X.env) :: starEach es X.env := by rfl) (hpl : (backTo pos (starEach es X.env)).any (·.1) = false := by rfl) :
    PE X (.Call (.Name nm p) (e :: es) [] pos) (tE X.K XE (eCallF i x n g ga)) := by
  refine ⟨fun pins s σ H Q I h => ?_⟩
  obtain ⟨G, ρ, W, F, R, pp⟩ := h
  unfold eCallF at pp
  split at pp
  · rename_i y hy
    obtain ⟨hxy, p2⟩ := Pg.of_ite pp
    clear pp
    subst hxy
    obtain ⟨v, hs, f, c, L, rfl, hL, hf, hc⟩ := R.sl i _ hy
    obtain ⟨ps, Fn⟩ := Fn L hL
    refine wpAny_Call_Name_kw (thn ((pe_var (pos := p) hN hv hd hcd).run pins s σ H (fun v H1 => v = .ref f ∧ H1 = H) I ⟨.ref f, hs, rfl, rfl⟩) fun u s1 ⟨v, H1, I1, r1, q1⟩ => ?_)
    obtain ⟨ev, eH⟩ := q1
    subst ev
    rw [eH] at I1
    obtain rfl : u = Value.ref f := r1
    have hq : tA X.K XE ga σ H (fun vs H2 => H2 f = some (LamO f c L) ∧ H2 c = some (CodeO c L.q) ∧ spP X.K n g vs H2 Q (fun _ _ _ => False)) := by
      refine ⟨G, ρ, W, F, R, Pg.of_bind (r := ga ρ W) (k := fun p => if p.1.length = n then resT (g p.1) p.2 else .bad) p2 |>.mono fun ds W1 q vs F1 H1 s1 R1 hv => ?_⟩
      obtain ⟨hl, q⟩ := Pg.of_ite q
      obtain ⟨r, hr, q⟩ := Pg.of_resT q
      refine ⟨R1.fh _ _ (s1 _ _ hf), R1.fh _ _ (s1 _ _ hc), F1, ds, R1.fh, R1.tb, hv, hl, ?_⟩
      rw [hr]
      exact fun v F' H' g hw => q v F' H' (s1.trans g.ff) (R1.grow g) hw
    refine PySem.W.callWith_F (first := []) (lamAt_of I1 (R.fh _ _ hf)) (thn (ha.run pos pins s1 σ H _ I1 hq) fun us s2 ⟨vs, H2, I2, r, h1, h2, q⟩ => ⟨lamAt_of I2 h1, ?_⟩) he hpl
    show wpAny _ _ (call (.ref f) us) _ _ _
    refine wpAny_call (codeAny_mono (Fn.run X.A X.stack s2 H2 us vs Q _ f c hr I2.env0 h1 h2 r q) fun r s' hq => ?_)
    cases r with
    | error e => exact (show False from hq).elim
    | ok fl =>
      cases fl with
      | ret u => exact I2.after hq
      | next => exact False.elim hq
      | brk => exact False.elim hq
      | cont => exact False.elim hq
  · exact pp.elim
end
/-! ### a lambda handed on -/
def tFn (K : PySem.W.Frag) (x : Str) : TE := fun σ H Q => ∃ G ρ W F, Rel K G ρ W σ F H ∧ ∀ f c L F' H', Same F F' → Rel K G ρ W σ F' H' → lamOf K x = some L → F' f = some (LamO f c L) → F' c = some (CodeO c L.q) → Q (.ref f) H'
def tAF (K : PySem.W.Frag) (XE : Str → Hp → Prop) (f : SA) (x : Str) : TA := fun σ H Q => ∃ G ρ W F, Rel K G ρ W σ F H ∧
  Pg XE G (f ρ W) fun ds W' => ∀ vs f c L F' H', Same F F' → Rel K G ρ W' σ F' H' → DqAll K F' vs ds → lamOf K x = some L → F' f = some (LamO f c L) → F' c = some (CodeO c L.q) → Q (vs ++ [.ref f]) H'
def spF (K : PySem.W.Frag) (n : Nat) (x : Str) (Fs : List Dt → Res Dt) : Sp := fun vs H Q _ => ∃ F ds vr f c L, vs = vr ++ [.ref f] ∧ Same F H ∧ TabsF (tabsOf K) F H ∧ DqAll K F vr ds ∧ ds.length = n ∧ lamOf K x = some L ∧ F f = some (LamO f c L) ∧ F c = some (CodeO c L.q) ∧ match Fs ds with
  | .ok r => ∀ v F' H', Gr0 K F H F' H' → Dq K F' v r → Q v H'
  | _ => False
def startFn (m : Nat) (x : Str) (ds : List Dt) : Sl := ds.map (fun y => some (SV.d y)) ++ some (.fn x) :: List.replicate (m - (ds.length + 1)) none
def runF (m : Nat) (x : Str) (B : SS) (ds : List Dt) : Res Dt := match B (startFn m x ds) none with
  | .rt (.d x) _ => .ok x
  | .nx _ _ => .ok .none
  | .exc c => .exc c
  | _ => .bad
section
variable {X : Cx} {XE : Str → Hp → Prop} {e a : Expr} {es : List Expr} {pos p : Pos} {fa : SE} {ga : SA} {k n i : Nat} {ps : List Str} {x nm : Str} {Fs : List Dt → Res Dt} {f : Addr} {fd : FuncData}
theorem e_lam {c P : Addr} {params : Arguments} {body : Expr} {scope : Scope} (hL : lamOf X.K x = some ⟨X.env.qual ++ "<lambda>", params, body, scope⟩) (TB : TabB X.base X.mg c P) (hcode : X.env.code = .ref c)
    (hm : (P, X.env.qual ++ "<lambda>") ∈ tabsOf X.K) (hu : ∀ p ∈ tabsOf X.K, p.1 = P → p.2 = X.env.qual ++ "<lambda>") (hdef : defaultsOf params X.env = ([], [])) (hfree : ∀ y ∈ scope.names, y.2 ≠ .free)
    (hcl : cloFrom X.env.cells scope.names [] = []) : PE X (.Lambda params body scope pos) (tFn X.K x) := by
  refine ⟨fun pins s σ H Q I h => ?_⟩
  obtain ⟨G, ρ, W, F, R, q⟩ := h
  refine lam_make3 I R.fh TB hcode hm hu R.tb hdef hfree hcl fun f c' F1 H1 s' I1 g h1 h2 => ?_
  exact ⟨.ref f, H1, I1, rfl, q f c' _ F1 H1 g.ff (R.grow g) hL h1 h2⟩
theorem af_lam (h : PE X e (tFn X.K x)) (hs : starEach [e] X.env = (false, eval e X.env) :: starEach [] X.env := by rfl) : PA X [e] (tAF X.K XE aNil x) := by
  refine (pa_cons h pa_nil hs).weak fun σ H Q ⟨G, ρ, W, F, R, p⟩ => ?_
  exact ⟨G, ρ, W, F, R, fun f c L F' H' s1 R1 h1 h2 h3 => p [] f c L F' H' s1 R1 .nil h1 h2 h3⟩
theorem af_cons (ha : PE X e (tE X.K XE fa)) (hr : PA X es (tAF X.K XE ga x)) (hs : starEach (e :: es) X.env = (false, eval e X.env) :: starEach es X.env := by rfl) : PA X (e :: es) (tAF X.K XE (aCons fa ga) x) := by
  refine (pa_cons ha hr hs).weak fun σ H Q ⟨G, ρ, W, F, R, p⟩ => ?_
  exact ⟨G, ρ, W, F, R, p.of_bind.mono fun d W1 q v F1 H1 s1 R1 hv => ⟨G, ρ, W1, F1, R1, q.of_bind.mono fun ds W2 q2 vs f c L F2 H2 s2 R2 hvs h1 h2 h3 => q2 (v :: vs) f c L F2 H2 (s1.trans s2) R2 (.cons (hv.mono s2) hvs) h1 h2 h3⟩⟩
theorem d_callX (F : FnOk X.prog X.w X.K X.mg X.base CX0 k f fd ps (spF X.K n x Fs)) (hr : Room k X.A) (hg : Gl X nm) (hm : X.mg nm = some (.ref f)) (hk : PySem.W.keepIn X.K (.ref f) = true) (hb : Binds X.K fd ps []) (ha : PA X (e :: es) (tAF X.K XE ga x))
    (hdb : (nm == ("__debug__" : Str)) = false := by decide) (he : starEach (e :: es) X.env = (false, eval e X.env) :: starEach es X.env := by rfl) (hpl : (backTo pos (starEach es X.env)).any (·.1) = false := by rfl) :
    PE X (.Call (.Name nm p) (e :: es) [] pos) (tE X.K XE (eCall n Fs ga)) := by
  refine (pe_call F hr hg hm hk hb .nil pass0 ha hdb he hpl).weak fun σ H Q h => ?_
  obtain ⟨G, ρ, W, F, R, p⟩ := h
  refine ⟨G, ρ, W, F, R, p.of_bind.mono fun ds W1 q vs f c L F1 H1 s1 R1 hv h1 h2 h3 => ?_⟩
  obtain ⟨hl, q⟩ := Pg.of_ite q
  obtain ⟨r, hr, q⟩ := Pg.of_resT q
  rw [List.append_nil]
  refine ⟨F1, ds, vs, f, c, L, rfl, R1.fh, R1.tb, hv, hl, h1, h2, h3, ?_⟩
  rw [hr]
  exact fun v F' H' g hw => q v F' H' (s1.trans g.ff) (R1.grow g) hw
end
theorem Rel.startFn {K : PySem.W.Frag} {F H : Hp} {vs : List V} {ds : List Dt} {k : Nat} {f c : Addr} {L : LF} {x : Str} (sm : Same F H) (tb : TabsF (tabsOf K) F H) (h : DqAll K F vs ds) (hL : lamOf K x = some L) (hf : F f = some (LamO f c L)) (hc : F c = some (CodeO c L.q)) :
    Rel K ⟨K, none, F, H, [], none, fun _ => []⟩ (ds.map (fun x => some (SV.d x)) ++ some (.fn x) :: List.replicate k none) none ((vs ++ [V.ref f]).map some ++ List.replicate k none) F H := by
  refine ⟨.refl sm, by simp [h.length], fun t e => (by cases e), fun t e => (by cases e), trivial, fun i sv e => ?_, fun i j a ha => (by cases ha), fun i a ha => (by cases ha), fun e he => (by cases he), fun e he => (by cases he), tb, rfl⟩
  have hl := h.length
  rw [List.map_append, List.append_assoc]
  by_cases hi : i < ds.length
  · rw [List.getElem?_append_left (by simpa using hi), List.getElem?_map] at e
    cases hd : ds[i]? with
    | none => rw [hd] at e; cases e
    | some d =>
      rw [hd] at e
      cases e
      obtain ⟨v, h1, h2⟩ := h.getD hd
      exact ⟨v, by rw [List.getElem?_append_left (by simp; omega), List.getElem?_map, h1]; rfl, h2⟩
  · rw [List.getElem?_append_right (by simpa using hi)] at e
    rw [List.getElem?_append_right (by simp; omega)]
    rw [List.length_map] at e ⊢
    rw [hl]
    generalize i - ds.length = j at e ⊢
    cases j with
    | zero =>
      cases e
      exact ⟨.ref f, rfl, f, c, L, rfl, hL, hf, hc⟩
    | succ j =>
      rw [List.getElem?_cons_succ, List.getElem?_replicate] at e
      split at e <;> cases e
section
variable {P : Program} {w : World} {K : PySem.W.Frag} {mg : Str → Option Value} {base : Heap} {x y qual : Str} {st : Stmt} {f : Addr} {fd : FuncData} {N ps : List Str} {k n : Nat} {B : SS}
theorem fn_F (F : Fun K x qual st f fd) (S : FnScope N ps (defScope st)) (hn : ps.length = n + 1)
    (hb : ∀ (cdv : Value) (A : Around) (outer : List Env) (s : Shared) (H : Hp) (E : XK), Room k (A.deeper (envOfC qual (defScope st) s.heap.objs.size f cdv)) → PSs (cxOf CX0 P w K mg base N qual (defScope st) f cdv A outer s H E).nox (defBody st) (tS K X0 B)) :
    FnOk P w K mg base CX0 (k + 1) f fd ps (spF K n y (runF N.length y B)) := by
  refine F.ok S (fun vs H Q E h => ?_) fun cdv A outer s H vs Q E hr h => ⟨tS K X0 B, hb cdv A outer s H E hr, ?_⟩
  · obtain ⟨Fz, ds, vr, f, c, L, rfl, _, _, hd, hl, _⟩ := h
    rw [List.length_append, hd.length, hl, hn]; rfl
  · obtain ⟨Fz, ds, vr, f, c, L, rfl, sm, tb, hd, hl, h1, h2, h3, hm⟩ := h
    have e : L2.start N (vr ++ [.ref f]) = (vr ++ [V.ref f]).map some ++ List.replicate (N.length - (ds.length + 1)) none := by unfold L2.start; rw [List.length_append, hd.length]; rfl
    rw [e]
    refine ⟨_, Sx.startFn N.length y ds, none, Fz, Rel.startFn sm tb hd h1 h2 h3, ?_⟩
    unfold runF at hm
    cases hB : B (Sx.startFn N.length y ds) none with
    | nx ρ W =>
      rw [hB] at hm
      exact fun G' σ' F' H' b s R => hm .non F' H' (by have g := R.gr; unfold Gh.tm at g; rw [b.T0, b.F0, b.H0] at g; exact g.mono fun _ z => nomatch z) .non
    | rt r W =>
      rw [hB] at hm
      cases r with
      | d x => exact fun G' ρ' σ' v F' H' b s R hv => hm v F' H' (by have g := R.gr; unfold Gh.tm at g; rw [b.T0, b.F0, b.H0] at g; exact g.mono fun _ z => nomatch z) hv
      | _ => exact hm.elim
    | exc c => rw [hB] at hm; exact hm.elim
    | rs r ρ W => rw [hB] at hm; exact hm.elim
    | bad => rw [hB] at hm; exact hm.elim
/-- a def whose code object is known -/
theorem fn_Pc (F : Fun K x qual st (He.fAd K (x, none)) fd) (S : FnScope N ps (defScope st)) (hn : ps.length = n)
    (hb : ∀ (A : Around) (outer : List Env) (s : Shared) (H : Hp) (E : XK), Room k (A.deeper (envOfC qual (defScope st) s.heap.objs.size (He.fAd K (x, none)) (.ref (He.cT K (x, none)).1))) → PSs (cxOf CX0 P w K mg base N qual (defScope st) (He.fAd K (x, none)) (.ref (He.cT K (x, none)).1) A outer s H E).nox (defBody st) (tS K X0 B)) :
    FnOk P w K mg base CX0 (k + 1) (He.fAd K (x, none)) fd ps (spP K n (runP N.length B)) := by
  obtain ⟨⟨oc, od, kV, doc, pm, an, cdv, ct, osl, rfl, lk, hcd⟩, kp⟩ := F
  obtain ⟨c, rfl⟩ := He.codeIn_ref hcd
  have hc : He.codeOf K (x, none) = c := He.codeOf_eq lk rfl
  have hb' : ∀ (A : Around) (outer : List Env) (s : Shared) (H : Hp) (E : XK), Room k (A.deeper (envOfC qual (defScope st) s.heap.objs.size (He.fAd K (x, none)) (.ref c))) → PSs (cxOf CX0 P w K mg base N qual (defScope st) (He.fAd K (x, none)) (.ref c) A outer s H E).nox (defBody st) (tS K X0 B) := by
    have q : (He.cT K (x, none)).1 = c := hc
    rw [q] at hb
    exact hb
  refine fn_of lk hcd S (fun vs H Q E h => ?_) fun A outer s H vs Q E hr h => ⟨tS K X0 B, (hb' A outer s H E hr).nox, ?_⟩
  · obtain ⟨Fz, ds, _, _, hd, hl, _⟩ := h
    rw [hd.length, hl, hn]
  · obtain ⟨Fz, ds, sm, tb, hd, hl, hm⟩ := h
    have e : L2.start N vs = vs.map some ++ List.replicate (N.length - ds.length) none := by unfold L2.start; rw [hd.length]
    rw [e]
    refine ⟨_, start0 N.length ds, none, Fz, Rel.start sm tb hd, ?_⟩
    unfold runP at hm
    cases hB : B (start0 N.length ds) none with
    | nx ρ W =>
      rw [hB] at hm
      exact fun G' σ' F' H' b s R => hm .non F' H' (by have g := R.gr; unfold Gh.tm at g; rw [b.T0, b.F0, b.H0] at g; exact g.mono fun _ z => nomatch z) .non
    | rt r W =>
      rw [hB] at hm
      cases r with
      | d x => exact fun G' ρ' σ' v F' H' b s R hv => hm v F' H' (by have g := R.gr; unfold Gh.tm at g; rw [b.T0, b.F0, b.H0] at g; exact g.mono fun _ z => nomatch z) hv
      | _ => exact hm.elim
    | exc c => rw [hB] at hm; exact hm.elim
    | rs r ρ W => rw [hB] at hm; exact hm.elim
    | bad => rw [hB] at hm; exact hm.elim
theorem lamOf_eq (F : Fun K x qual st (He.fAd K (x, none)) fd) : lamOf K x = (lamBody (defBody st)).map fun p => ⟨x ++ ".<locals>.<lambda>", p.1, p.2.1, p.2.2⟩ := by
  obtain ⟨⟨oc, od, kV, doc, pm, an, cdv, ct, osl, rfl, lk, hcd⟩, kp⟩ := F
  unfold lamOf
  rw [lk]
end
/-- a def that gets a function -/
def CalF (P : Program) (w : World) (K : PySem.W.Frag) (mg : Str → Option Value) (base : Heap) (x : Str) (k n : Nat) (ps : List Str) (j m : Nat) (Fs : Str → (List Dt → Res Dt) → List Dt → Res Dt) : Prop :=
  ∀ y g, LamAll P w K mg base y j m g → ∃ f fd, FnOk P w K mg base CX0 k f fd ps (spF K n y (Fs y g)) ∧ mg x = some (.ref f) ∧ PySem.W.keepIn K (.ref f) = true ∧ Binds K fd ps []
/-! ### heads -/
abbrev lamQ (x : Str) : Str := x ++ ".<locals>.<lambda>"
theorem exL2_ex {ex : PySem.W.Frag → Bool} {K : PySem.W.Frag} (h : exL2 ex K = true) : ex K = true := by
  unfold exL2 at h
  simp only [Bool.and_eq_true] at h
  exact h.1
/-- the lambda's table -/
structure TabAt (K : PySem.W.Frag) (x q : Str) : Prop where
  hm : ((He.cT K (x, none)).2, q) ∈ tabsOf K
  hu : ∀ p ∈ tabsOf K, p.1 = (He.cT K (x, none)).2 → p.2 = q
theorem exL2_tabs {ex : PySem.W.Frag → Bool} {K : PySem.W.Frag} (h : exL2 ex K = true) : TabAt K "greatest_part" (lamQ "greatest_part") ∧ TabAt K "least_part" (lamQ "least_part") := by
  unfold exL2 at h
  simp only [Bool.and_eq_true, decide_eq_true_eq] at h
  obtain ⟨_, h1, h2⟩ := h
  have e : tabsOf K = [((He.cT K ("greatest_part", none)).2, lamQ "greatest_part"), ((He.cT K ("least_part", none)).2, lamQ "least_part")] := by
    unfold tabsOf
    rw [h1]
    rfl
  refine ⟨⟨?_, ?_⟩, ⟨?_, ?_⟩⟩ <;> rw [e]
  · exact List.mem_cons_self
  · intro p hp hq
    rcases List.mem_cons.mp hp with z | z
    · rw [z]
    · have z := List.mem_singleton.mp z
      rw [z] at hq
      exact absurd hq.symm h2
  · exact List.mem_cons_of_mem _ (List.mem_singleton.mpr rfl)
  · intro p hp hq
    rcases List.mem_cons.mp hp with z | z
    · rw [z] at hq
      exact absurd hq h2
    · rw [List.mem_singleton.mp z]
theorem exL2_of {ex : PySem.W.Frag → Bool} {K : PySem.W.Frag} (h : exL2 ex K = true) : ∀ p ∈ tabsOf K, ∃ d ∈ lamNames, p.1 = (He.cT K d).2 := by
  unfold exL2 at h
  simp only [Bool.and_eq_true, decide_eq_true_eq] at h
  intro p hp
  unfold tabsOf at hp
  rw [h.2.1] at hp
  obtain ⟨d, hd, rfl⟩ := List.mem_map.mp hp
  exact ⟨d, hd, rfl⟩
open Classical in
theorem law_endL {K : PySem.W.Frag} {H : Hp} {a : Addr} {ns : List Int} {Fs : List Dt → Res Dt} {E : XK} {cs : List (Addr × Addr)} (h : Fs [.list (ns.map PyData.int)] = .ok (.bool true)) (tb : ∀ p ∈ tabsOf K, ∃ d ∈ cs, p.1 = d.2) (hT : ∀ p ∈ cs, H p.2 = some (.tbl #[])) (hS : SqL K H a (ns.map V.int)) : spP K 1 Fs [V.ref a] H (fun v _ => v = V.bl true) E := by
  have hF : ∀ b o, H b = some o → NT o → (fun b => if ∃ d ∈ cs, b = d.2 then none else H b : Hp) b = some o := fun b o e n => by
    show (if ∃ d ∈ cs, b = d.2 then none else H b) = some o
    rw [if_neg]
    · exact e
    · rintro ⟨d, hd, rfl⟩
      rw [hT d hd] at e
      exact n _ (Option.some.inj e).symm
  refine ⟨fun b => if ∃ d ∈ cs, b = d.2 then none else H b, [.list (ns.map PyData.int)], fun b o e => ?_, fun p hp => ?_, .cons (.lst ?_ (ints_dq ns)) .nil, rfl, ?_⟩
  · have e : (if ∃ d ∈ cs, b = d.2 then none else H b) = some o := e
    split at e
    · cases e
    · exact e
  · obtain ⟨d, hd, e⟩ := tb p hp
    refine ⟨if_pos ⟨d, hd, e⟩, #[], by rw [e]; exact hT d hd, True.intro, fun pos cv hc => ?_⟩
    have z : codeAmong pos [] = some cv := hc
    simp [codeAmong] at z
  · rcases hS with z | z
    · rcases z with z | ⟨o, z⟩
      · exact .inl (.inl (hF _ _ z nt_lst))
      · exact .inl (.inr ⟨o, hF _ _ z nt_frz⟩)
    · exact .inr z
  · rw [h]
    intro v F' H' _ hv
    cases hv
    rfl
end Sx

/-! Sx18: sorted: tuples of ints; lists of data that are alike. -/
namespace Sx
open PySem PySem.Spec PyProof.Rows L2
section
variable {prog : Program} {w : World} {A : Around} {E : Value → Shared → Prop} {s : Shared}
theorem collect_tup {l : Addr} {vs : List Value} {Q : List Value → Shared → Prop} {o : Obj} {n : Nat} (ho : s.heap.get? l = some o) (hc : o.cls = .type "tuple") (hd : o.data = .seq vs.toArray n)
    (h : Q vs { s with heap := (s.heap.push (seqObj "list" #[] 0)).update s.heap.objs.size (Obj.mapSeq (· ++ vs.toArray)) }) (hsz : vs.length ≤ sizeLine) :
    wpAny (model prog w) A (collect (.ref l)) Q E s := by
  unfold collect
  refine wpAny_bind (wpAny_runValue (codeAny_builtin entry_proto_collect' ?_))
  show wpAny _ _ (do again (.builtin "list.__iadd__" ⟨[← newList [], .ref l], []⟩)) _ _ s
  refine wpAny_bind (wpAny_newList (wpAny_pure ⟨Code.quiet_builtin _ (by decide +kernel), codeAny_builtin entry_list_iadd' ?_⟩))
  show wpAny _ _ (Builtin.List.listExtendWith (.ref s.heap.objs.size) (.ref l) (.ref s.heap.objs.size)) _ _ { s with heap := s.heap.push (seqObj "list" #[] 0) }
  unfold Builtin.List.listExtendWith
  have ho' : (s.heap.push (seqObj "list" #[] 0)).get? l = some o := Heap.get?_push_of_some _ ho
  refine wpAny_bind (wpAny_typeOf (T := "tuple") ⟨o, ho', hc⟩ ?_)
  have ht : (Value.type "tuple" == Value.type "tuple") = true := by rfl
  rw [if_pos (by rw [ht]; simp)]
  refine wpAny_bind (listItems_at ho' hd ?_)
  refine wpAny_bind (listItems_at (xs := #[]) (n := 0) (Heap.get?_push_size _ rfl) rfl ?_)
  rw [if_neg (by simp)]
  refine wpAny_bind (listUpdate_at (xs := #[]) (n := 0) (Heap.get?_push_size _ rfl) rfl ?_ (Nat.zero_le _) (by show (#[] ++ vs.toArray).size ≤ sizeLine + 1; simp only [Array.size_append, List.size_toArray, List.length_nil]; omega))
  refine wpAny_pure ?_
  show wpAny (model prog w) A (do
      let o ← load s.heap.objs.size
      match o.data with
      | .seq xs _ => pure xs.toList
      | _ => unsupported "internal:collect") Q E { s with heap := (s.heap.push (seqObj "list" #[] 0)).update s.heap.objs.size (Obj.mapSeq (· ++ vs.toArray)) }
  refine wpAny_bind (wpAny_load (get?_update_seq (Heap.get?_push_size _ rfl) _) ?_)
  show wpAny _ _ (pure ((#[] : Array Value) ++ vs.toArray).toList) Q E _
  rw [show ((#[] : Array Value) ++ vs.toArray).toList = vs by simp]
  exact wpAny_pure h
theorem sorted_tup {l : Addr} {vs : List Value} {ltv : Value → Value → Bool} {Q : Value → Shared → Prop} {o : Obj} {n : Nat} (O : SrtO.Swo ltv) (ho : s.heap.get? l = some o) (hc : o.cls = .type "tuple") (hd : o.data = .seq vs.toArray n) (hz : vs.length ≤ sizeLine)
    (hS : 2 ≤ vs.length → ∀ (h₁ : Heap) (a : Addr), h₁.get? a = some (seqObj "list" vs.toArray 0) → (∀ b o, s.heap.get? b = some o → b ≠ a ∧ h₁.get? b = some o) → SrtO.SortableO prog w A.in1.in1 { s with heap := h₁ } a vs ltv)
    (h : ∀ out : List Value, SrtO.Srtd ltv out → SrtO.Stb ltv out vs → Q (.ref (s.heap.objs.size + 1)) { s with heap := sortedAll s.heap vs out.toArray }) :
    wpAny (model prog w) A (call (.builtin "sorted") [.ref l]) Q E s := by
  refine Calls.call_function_entry kind_sorted plain_sorted entry_sorted (args_sorted1 _) ?_
  unfold Builtin.«sorted»
  refine wpAny_bind (m := checkCount "sorted" 1 1 _) (wpAny_pure ?_)
  refine wpAny_bind (collect_tup ho hc hd ?_ hz)
  refine wpAny_bind (wpAny_newList ?_ hz)
  have hsz : ((s.heap.push (seqObj "list" #[] 0)).update s.heap.objs.size (Obj.mapSeq (· ++ vs.toArray))).objs.size = s.heap.objs.size + 1 := by
    rw [Heap.size_update, size_push']
  have hoL : (((s.heap.push (seqObj "list" #[] 0)).update s.heap.objs.size (Obj.mapSeq (· ++ vs.toArray))).push (seqObj "list" vs.toArray 0)).get? (s.heap.objs.size + 1) = some (seqObj "list" vs.toArray 0) := by
    rw [← hsz]; exact Heap.get?_push_size _ rfl
  have keep : ∀ b o, s.heap.get? b = some o → b ≠ s.heap.objs.size + 1 ∧ (((s.heap.push (seqObj "list" #[] 0)).update s.heap.objs.size (Obj.mapSeq (· ++ vs.toArray))).push (seqObj "list" vs.toArray 0)).get? b = some o := fun b o q => by
    have hlt : b < s.heap.objs.size := Heap.lt_size q
    refine ⟨Nat.ne_of_lt (Nat.lt_succ_of_lt hlt), Heap.get?_push_of_some _ ?_⟩
    rw [Heap.get?_update_ne _ _ _ _ (Nat.ne_of_lt hlt)]
    exact Heap.get?_push_of_some _ q
  show wpAny _ _ _ _ _ { s with heap := ((s.heap.push (seqObj "list" #[] 0)).update s.heap.objs.size (Obj.mapSeq (· ++ vs.toArray))).push (seqObj "list" vs.toArray 0) }
  rw [hsz]
  refine wpAny_bind (wpAny_holding (wpAny_call_entry slot_list_sort ⟨_, hoL, rfl⟩ entry_list_sort (SrtO.list_sort_ord O hoL hz (fun h2 => hS h2 _ _ hoL keep) fun out hs hb => ⟨_, rfl, ?_⟩) (args_list_sort _)))
  exact wpAny_pure ⟨_, rfl, h out hs hb⟩
end
/-- sorted(t), t a tuple of ints -/
def sortT : List Dt → Option (List Dt)
  | [.tuple ds] => (intsOf ds).map fun ns => (sortO leI ns).map PyData.int
  | _ => none
theorem ints_all {K : PySem.W.Frag} {F : Hp} : ∀ l : List Int, DqAll K F (l.map V.int) (l.map PyData.int)
  | [] => .nil
  | i :: l => .cons (.int i) (ints_all l)
section
variable {X : Cx}
theorem cb_sortedT : CallR X (.builtin "sorted") (RLC X.K sortT) := by
  intro pins s σ H xs us Q I r h
  obtain ⟨F, ds, z, sm, hx, hg, q⟩ := h
  rcases ds with _ | ⟨d, _ | ⟨e, ds⟩⟩
  · cases hg
  · obtain ⟨v, rfl, hv⟩ := hx.one
    cases d <;> simp only [sortT] at hg <;> try (cases hg; done)
    rename_i xs'
    obtain ⟨a, xs, rfl, ha, da⟩ := hv.tup
    cases e : intsOf xs' with
    | none => rw [e] at hg; cases hg
    | some ns =>
      rw [e] at hg
      cases hg
      obtain rfl := ints_vs da e
      obtain ⟨its, rv, ⟨o, ho, hc, n, hd⟩, hz⟩ := I.tuple (sqT_mono sm ha)
      rw [Vals.ref1 r]
      have hi := rv.ints
      refine sorted_tup SrtO.swo_int ho hc hd (by rw [← rv.length]; exact hz) (fun h2 h₁ a' _ _ => SrtO.ints_sortable hi h2) fun out h1 h2 => ?_
      obtain ⟨k1, k2, k3⟩ := SrtO.ints_out hi h1 h2
      obtain ⟨ep, he'⟩ := PyProof.Rows.sortedAll_at s.heap its out.toArray
      have hlen : ((out.map SrtO.iv).map V.int).length ≤ sizeLine := by
        rw [List.length_map, k2.length_eq]
        rw [List.length_map] at hz
        exact hz
      refine ⟨.ref _, upd H (s.heap.objs.size + 1) (.lst ((out.map SrtO.iv).map V.int)), I.laid (t' := s.toks) (fun _ _ => PyProof.Rows.sortedAll_old) (Nat.le_succ _) ⟨hlen, out, ep, vals_of_ints k1, he'⟩, rfl, ?_⟩
      refine q _ _ (I.hok.fresh (Nat.le_succ _)) ?_
      have : out.map SrtO.iv = sortO leI ns := sort_uniq (le := leI) (fun a b h k => by simp at h k; omega) (k3.imp fun z => by simpa using z) (sortO_pw (fun a b => by simp; omega) (fun a b c h k => by simp at h k ⊢; omega) ns) (k2.trans (sortO_perm ns).symm)
      rw [this]
      exact ints_all _
  · cases d <;> cases hg
end
/-! ### lists of data that are alike -/
def alikeB (ds : List Dt) : Bool := ds.all fun d => ds.all fun e => PySem.W.alike d e
def tupB : Dt → Bool
  | .tuple (_ :: _) => true
  | _ => false
def sortGOk (ds : List Dt) : Bool := alikeB ds && (ds.all tupB && (ds.all (fun d => d.canLay0 && decide (d.depth ≤ 60)) && decide (ds.length ≤ 100000)))
def sortG : List Dt → Option (List Dt)
  | [.list ds] => if sortGOk ds = true then some (ds.mergeSort (PySem.W.dataLe false id)) else none
  | _ => none
theorem each_dq {K : PySem.W.Frag} {F : Hp} : ∀ {us : List Value} {ds : List Dt}, PySem.W.EachIs (fun u d => ∃ v, L2.RelV v u ∧ Dq K F v d) us ds → ∃ vs, Vals vs us ∧ DqAll K F vs ds
  | _, _, .nil => ⟨[], .nil, .nil⟩
  | _, _, .cons ⟨v, h1, h2⟩ t => by
    obtain ⟨vs, t1, t2⟩ := each_dq t
    exact ⟨v :: vs, .cons h1 t1, .cons h2 t2⟩
theorem dq_each {K : PySem.W.Frag} {F : Hp} : ∀ {vs : List V} {us : List Value} {ds : List Dt}, Vals vs us → DqAll K F vs ds → PySem.W.EachIs (fun u d => ∃ v, L2.RelV v u ∧ Dq K F v d) us ds
  | _, _, _, .nil, .nil => .nil
  | _, _, _, .cons h t, .cons g k => .cons ⟨_, h, g⟩ (dq_each t k)
section
variable {X : Cx}
theorem reads_each {pins : List (Addr × Obj)} {σ : L2.St} {F H : Hp} {s : Shared} (I : Inv X pins σ H s) (sm : Same F H) : ∀ {vs : List V} {us : List Value} {ds : List Dt}, (∀ d ∈ ds, d.canLay0 = true) → Vals vs us → DqAll X.K F vs ds → PySem.W.EachIs (fun u d => ∃ as, Reads s.heap u (id d) as) us ds
  | _, _, _, _, .nil, .nil => .nil
  | _, _, _, hc, .cons h t, .cons g k => .cons (Dp.reads I _ _ _ (dq_dp sm _ _ (hc _ List.mem_cons_self) g) h) (reads_each I sm (fun d hd => hc d (List.mem_cons_of_mem _ hd)) t k)
theorem cb_sortedG (hu5 : X.A.units + 65 < cLine) : CallR X (.builtin "sorted") (RLC X.K sortG) := by
  intro pins s σ H xs us Q I r h
  obtain ⟨F, ds, z, sm, hx, hg, q⟩ := h
  rcases ds with _ | ⟨d, _ | ⟨e, ds⟩⟩
  · cases hg
  · obtain ⟨v, rfl, hv⟩ := hx.one
    cases d <;> simp only [sortG] at hg <;> try (cases hg; done)
    rename_i ds
    obtain ⟨a, xs, rfl, ha, da⟩ := hv.lst sm
    split at hg
    · rename_i hok
      cases hg
      unfold sortGOk at hok
      simp only [Bool.and_eq_true, decide_eq_true_eq] at hok
      obtain ⟨h1, h2, h3, h4⟩ := hok
      have hcl : ∀ d ∈ ds, d.canLay0 = true ∧ d.depth ≤ 60 := fun d hd => by
        have := List.all_eq_true.mp h3 d hd
        simp only [Bool.and_eq_true, decide_eq_true_eq] at this
        exact this
      obtain ⟨its, rv, hl, hz⟩ := I.list ha
      rw [Vals.ref1 r]
      have hal : PySem.W.AllAlike (ds.map id) := fun d hd d' hd' => by
        rw [List.map_id] at hd hd'
        exact List.all_eq_true.mp (List.all_eq_true.mp h1 d hd) d' hd'
      have hk : PySem.W.Sortable (ds.map id) := .inl fun d hd => by
        rw [List.map_id] at hd
        have := List.all_eq_true.mp h2 d hd
        unfold tupB at this
        split at this
        · exact ⟨_, _, rfl⟩
        · cases this
      have hlen : ds.length ≤ sizeLine := sz5 h4
      refine PySem.W.sorted_data (enc := id) hl.isList (dq_each rv da) (reads_each I sm (fun d hd => (hcl d hd).1) rv da) hal hk hlen (fun d hd => ?_) fun out ol oe => ?_
      · have := (hcl d hd).2
        show X.A.units + 2 + d.depth < cLine
        omega
      · obtain ⟨ys, y1, y2⟩ := each_dq oe
        obtain ⟨ep, he'⟩ := PyProof.Rows.sortedAll_at s.heap its out.toArray
        refine ⟨.ref _, upd H (s.heap.objs.size + 1) (.lst ys), I.laid (t' := s.toks) (fun _ _ => PyProof.Rows.sortedAll_old) (Nat.le_succ _) ⟨?_, out, ep, y1, he'⟩, rfl, q _ ys (I.hok.fresh (Nat.le_succ _)) y2⟩
        rw [y1.length, ol]
        exact hlen
    · cases hg
  · cases d <;> cases hg
end
end Sx

/-! Sx19: dicts: get, put, pop, sorted; dict(tuple). -/
namespace Sx
open PySem PySem.Spec PyProof.Rows L2
section
variable {K : PySem.W.Frag} {G : Gh} {ρ : Sl} {W : Tw} {σ : L2.St} {F H : Hp}
/-- slot i's own thing is changed -/
theorem Rel.mutAt {i : Nat} {p : Addr} {o o' : HO} {sv sv' : SV} (R : Rel K G ρ W σ F H) (hs : ρ[i]? = some (some sv)) (hσ : σ[i]? = some (some (.ref p))) (h4 : H p = some o) (nt : NT o) (h3 : G.fp i = [p]) (hsv : SlOk K G.T F (upd H p o') (.ref p) [p] sv') :
    Rel K G (ρ.set i (some sv')) W σ F (upd H p o') := by
  have hi : i < ρ.length := (List.getElem?_eq_some_iff.mp hs).1
  have hm : p ∈ G.fp i := by rw [h3]; simp
  obtain ⟨q1, q2, q3, q4⟩ := R.fr i p hm
  refine ⟨⟨R.gr.ff, same_mut R.fh q1, R.gr.nw, fun a u e n m => ?_, fun a e => ?_, fun t => (R.gr.tb t).mut h4 nt⟩, by rw [List.length_set]; exact R.len, R.t0, R.t1, ?_, fun j sv e => ?_, R.dj, fun j a ha => ?_, fun e he => ?_, R.xt, R.tb.mut h4 nt, R.kk⟩
  · rw [upd_ne (fun z => by rw [z, q3] at e; cases e)]
    exact R.gr.kp a u e n m
  · by_cases ha : a = p
    · subst ha; rw [upd_same]; exact fun z => nomatch z
    · rw [upd_ne ha]; exact R.gr.th a e
  · have t := R.tw
    revert t
    cases hT : G.T <;> cases W <;> intro t
    · trivial
    · exact t
    · exact t
    · obtain ⟨tv, h1, h2, h3⟩ := t
      exact ⟨tv, by rw [upd_ne (fun z => q4 (by rw [hT, z]))]; exact h1, h2, h3⟩
  · by_cases hj : i = j
    · subst hj
      rw [List.getElem?_set_self hi] at e
      cases e
      exact ⟨.ref p, hσ, by rw [h3]; exact hsv⟩
    · rw [List.getElem?_set_ne hj] at e
      obtain ⟨v, h1, h2⟩ := R.sl j sv e
      exact ⟨v, h1, h2.keep (.refl _) fun a o ho _ ha => by rw [upd_ne fun z => hj (R.dj i j p hm (by rw [← z]; exact ha))]; exact ho⟩
  · obtain ⟨h1, h2, h3, h4⟩ := R.fr j a ha
    refine ⟨h1, ?_, h3, h4⟩
    by_cases hz : a = p
    · subst hz; rw [upd_same]; exact fun z => nomatch z
    · rw [upd_ne hz]; exact h2
  · obtain ⟨h1, h2, h3, h4⟩ := R.ex e he
    exact ⟨by rw [upd_ne (fun z => h4 i (by rw [z]; exact hm))]; exact h1, h2, h3, h4⟩
end
/-! ### get, put, pop -/
def get2D (kvs : List (Int × Dt)) (k z : Dt) : Option Dt := match k with
  | .int k => some ((valD kvs k).getD z)
  | _ => none
def eDget2 (i : Nat) (fk fz : SE) : SE := fun ρ W => match dkAt ρ i with
  | some kvs => (fk ρ W).bind fun p => (fz ρ p.2).bind fun q => ofO (get2D kvs p.1 q.1) q.2
  | none => .bad
def nxK (i : Nat) (kvs : List (Int × Dt)) (k d : Dt) (ρ : Sl) (W : Tw) : Out := match k with
  | .int k => if kvs.length < 100000 then .nx (ρ.set i (some (.dk (putD kvs k d)))) W else .bad
  | _ => .bad
def sDput (i : Nat) (k e : SE) : SS := fun ρ W => match ρ[i]? with
  | some (some (.dk kvs)) => rOut (e ρ W) fun d W1 => rOut (k ρ W1) fun kd W2 => nxK i kvs kd d ρ W2
  | _ => .bad
def dropD (kvs : List (Int × Dt)) (k : Int) : List (Int × Dt) := kvs.filter fun kv => decide (kv.1 ≠ k)
def nxD (i : Nat) (kvs : List (Int × Dt)) (k : Dt) (ρ : Sl) (W : Tw) : Out := match k with
  | .int k => if (valD kvs k).isSome = true then .nx (ρ.set i (some (.dk (dropD kvs k)))) W else .bad
  | _ => .bad
def sDpop (i : Nat) (k : SE) : SS := fun ρ W => match ρ[i]? with
  | some (some (.dk kvs)) => rOut (k ρ W) fun kd W1 => nxD i kvs kd ρ W1
  | _ => .bad
theorem KvOk.len {K : PySem.W.Frag} {F : Hp} : ∀ {vs : List (Key × V)} {kvs : List (Int × Dt)}, KvOk K F vs kvs → vs.length = kvs.length
  | _, _, .nil => rfl
  | _, _, .cons _ t => by rw [List.length_cons, List.length_cons, KvOk.len t]
theorem KvOk.drop {K : PySem.W.Frag} {F : Hp} {k : Int} : ∀ {vs : List (Key × V)} {kvs : List (Int × Dt)}, KvOk K F vs kvs → KvOk K F (dropK vs (.inl k)) (dropD kvs k)
  | _, _, .nil => .nil
  | _, _, .cons (k := j) h t => by
    have ih := KvOk.drop (k := k) t
    unfold dropK dropD at ih ⊢
    rw [List.filter_cons, List.filter_cons]
    by_cases e : j = k
    · subst e
      simp only [ne_eq, not_true_eq_false, decide_false, Bool.false_eq_true, if_false]
      exact ih
    · have e' : ¬ ((Sum.inl j : Key) = Sum.inl k) := fun z => e (Sum.inl.inj z)
      simp only [ne_eq, e, e', not_false_eq_true, decide_true, if_true]
      exact .cons h ih
theorem KvOk.keys {K : PySem.W.Frag} {F : Hp} : ∀ {vs : List (Key × V)} {kvs : List (Int × Dt)}, KvOk K F vs kvs → vs.map (·.1) = (kvs.map (·.1)).map Sum.inl
  | _, _, .nil => rfl
  | _, _, .cons _ t => by rw [List.map_cons, List.map_cons, List.map_cons, KvOk.keys t]
/-- sorted(d) -/
def lSortDk (i : Nat) : SA := fun ρ W => match dkAt ρ i with
  | some kvs => if kvs.length < 64 then .ok ((sortO leI (kvs.map (·.1))).map PyData.int, W) else .bad
  | none => .bad
section
variable {X : Cx} {XE : Str → Hp → Prop} {st : Stmt} {e f : Expr} {fe fk fz : SE} {pos p apos p2 cpos : Pos} {i : Nat} {x : Str}
theorem d_dget2 (hu : X.A.units + 1 < cLine) (hx : PE X (.Name x p2) (tVar i)) (he : PE X e (tE X.K XE fk)) (hf : PE X f (tE X.K XE fz)) (m : M2 X (.Name x p2) "get" apos e f cpos) : PE X (.Call (.Attribute (.Name x p2) "get" apos) [e, f] [] cpos) (tE X.K XE (eDget2 i fk fz)) := by
  refine (pe_dget2 hu hx he hf m).weak fun σ H Q ⟨G, ρ, W, F, R, p⟩ => ?_
  unfold eDget2 at p
  cases hk : dkAt ρ i with
  | none => simp only [hk] at p; exact p.elim
  | some kvs =>
    simp only [hk] at p
    obtain ⟨a, vs, h1, h2, h3⟩ := dk_of R hk
    refine ⟨_, h1, a, rfl, .inl ⟨vs, h2⟩, G, ρ, W, F, R, p.of_bind.mono fun d W1 q v F1 H1 s1 R1 hv => ⟨G, ρ, W1, F1, R1, q.of_bind.mono fun z W2 q2 zv F2 H2 s2 R2 hz => ?_⟩⟩
    obtain ⟨y, hy, q3⟩ := q2.of_ofO
    cases d <;> try (cases hy; done)
    cases hv
    rename_i k
    obtain ⟨a', vs', h1', h2', h3'⟩ := dk_of R2 hk
    rw [h1] at h1'
    cases h1'
    have hy : some ((valD kvs k).getD z) = some y := hy
    cases hy
    refine ⟨valV vs' (.inl k), .inl ⟨vs', .inl k, h2', rfl, rfl⟩, ?_⟩
    rcases h3'.find (k := k) with ⟨e1, e2⟩ | ⟨w, d, e1, e2, e3⟩
    · rw [e1]; rw [e2] at q3; exact q3 zv F2 H2 (s1.trans s2) R2 hz
    · rw [e1]; rw [e2] at q3; exact q3 w F2 H2 (s1.trans s2) R2 e3
theorem s_dput (h : PS X st (sDPut (tVar i) (tE X.K XE fk) (tE X.K XE fe))) : PS X st (tS X.K XE (sDput i fk fe)) := by
  refine h.weak fun D σ H ⟨G, ρ, W, F, R, p⟩ => ?_
  unfold sDput at p
  split at p
  · rename_i kvs hs
    refine ⟨G, ρ, W, F, R, p.of_rOut.mono fun d W1 q v F1 H1 s1 R1 hv => ?_⟩
    obtain ⟨v', h1, np, vs, rfl, h3, h4, h5⟩ := R1.sl i _ hs
    refine ⟨_, h1, G, ρ, W1, F1, R1, q.of_rOut.mono fun kd W2 q2 kv F2 H2 s2 R2 hk => ?_⟩
    cases kd <;> try (exact q2.elim)
    rename_i k
    cases hk
    obtain ⟨hl, q2⟩ := Po.of_ite (show Po X.K XE G F (if kvs.length < 100000 then .nx (ρ.set i (some (.dk (putD kvs k d)))) W2 else .bad) D from q2)
    obtain ⟨v2, h1', np', vs', e1, h3', h4', h5'⟩ := R2.sl i _ hs
    rw [h1] at h1'
    cases h1'
    cases e1
    refine ⟨np, _, rfl, .inl ⟨vs', .inl k, h4', rfl, Nat.lt_of_lt_of_le (by rw [h5'.len]; exact hl) (sz5 (Nat.le_refl _)), rfl⟩, ?_⟩
    exact q2 G σ F2 _ (.refl _) (s1.trans s2) (R2.mutAt hs h1 h4' nt_dK h3' ⟨np, _, rfl, rfl, upd_same, h5'.put (hv.mono s2)⟩)
  · exact p.elim
theorem s_dpop (h : PS X st (tDrop (tDPop1 (tVar i) (tE X.K XE fk)))) : PS X st (tS X.K XE (sDpop i fk)) := by
  refine h.weak fun D σ H ⟨G, ρ, W, F, R, p⟩ => ?_
  unfold sDpop at p
  split at p
  · rename_i kvs hs
    obtain ⟨v', h1, np, vs, rfl, h3, h4, h5⟩ := R.sl i _ hs
    refine ⟨_, h1, np, rfl, .inl ⟨vs, .inl h4⟩, G, ρ, W, F, R, p.of_rOut.mono fun kd W1 q kv F1 H1 s1 R1 hk => ?_⟩
    cases kd <;> try (exact q.elim)
    rename_i k
    cases hk
    obtain ⟨hl, q⟩ := Po.of_ite (show Po X.K XE G F (if (valD kvs k).isSome = true then .nx (ρ.set i (some (.dk (dropD kvs k)))) W1 else .bad) D from q)
    obtain ⟨v2, h1', np', vs', e1, h3', h4', h5'⟩ := R1.sl i _ hs
    rw [h1] at h1'
    cases h1'
    cases e1
    rcases h5'.find (k := k) with ⟨e1, e2⟩ | ⟨w, d, e1, e2, e3⟩
    · rw [e2] at hl; cases hl
    · exact ⟨vs', .inl k, w, h4', rfl, e1, q G σ F1 _ (.refl _) s1 (R1.mutAt hs h1 h4' nt_dK h3' ⟨np, _, rfl, rfl, upd_same, h5'.drop⟩)⟩
  · exact p.elim
theorem l_sortDk (hc : X.calm = true) (hg : Gl X "sorted") (hm : X.mg "sorted" = none) (hv : bootBuiltins "sorted" = some (.builtin "sorted")) (hx : PE X (.Name x p2) (tVar i)) (hs : starEach [.Name x p2] X.env = [(false, eval (.Name x p2) X.env)] := by rfl) :
    PE X (.Call (.Name "sorted" p) [.Name x p2] [] pos) (tL X.K XE (lSortDk i)) := by
  refine (pe_callB (call_sortedDI hc) hg hm hv (pa_cons hx pa_nil hs) (by decide) (by decide) hs (by rfl)).weak fun σ H Q ⟨G, ρ, W, F, R, p⟩ => ?_
  unfold lSortDk at p
  cases hk : dkAt ρ i with
  | none => simp only [hk] at p; exact p.elim
  | some kvs =>
    simp only [hk] at p
    obtain ⟨a, vs, h1, h2, h3⟩ := dk_of R hk
    obtain ⟨hl, q⟩ := Pg.of_ite p
    refine ⟨_, h1, a, vs, kvs.map (·.1), rfl, h2, h3.keys, by rw [List.length_map]; exact hl, fun ys np y1 y2 hnp => ?_⟩
    have e : ys = sortO leI (kvs.map (·.1)) := sort_uniq (le := leI) (fun a b h k => by simp at h k; omega) (y2.imp fun z => by simpa using z) (sortO_pw (fun a b => by simp; omega) (fun a b c h k => by simp at h k ⊢; omega) _) (y1.trans (sortO_perm _).symm)
    subst e
    have g : Gr0 X.K F H F (upd H np (.lst ((sortO leI (kvs.map (·.1))).map V.int))) := .newH R.fh hnp
    exact q np _ F _ (.refl _) (R.grow g) (R.fresh hnp) upd_same (R.fh.free hnp) (ints_all _)
end
end Sx

/-! Sx20: dict(tuple of pairs). -/
namespace Sx
open PySem PySem.Spec PyProof.Rows L2
theorem tuple_keys_none : typeLookup (.type "tuple") "keys" = pure none := am_miss_of_fast (by first | decide +kernel | rfl)
section
variable {prog : Program} {w : World} {A : Around} {E : Value → Shared → Prop}
/-- the walk over the pairs -/
theorem upd_loopT {R : Result → Shared → Prop} {S I l : Addr} {items : Array Value} {res : Value} (hh : A.handled = none) (hlI : l ≠ I) (hSI : S ≠ I) (hSl : S ≠ l) :
    ∀ (rest : List (Key × Value)) (i : Nat) (acc : List (Key × Value)) (ix : Int) (t : Tok) (s : Shared), items.size = i + rest.length → acc.length + rest.length ≤ sizeLine →
      (∀ (j : Nat) (q : Key × Value), rest[j]? = some q → ∃ (b : Addr) (u : Value), items[i + j]? = some (.ref b) ∧ b ≠ S ∧ b ≠ I ∧ IsTup s.heap b #[u, q.2] ∧ keyIs q.1 u = true) →
      s.heap.IsTupleIter I l i → s.heap.IsTuple l items → s.heap.DictOf (mixKind prog w) S acc →
      (∀ h' tk, h'.DictOf (mixKind prog w) S (merged acc rest) → (∀ b o, b ≠ S → b ≠ I → s.heap.get? b = some o → h'.get? b = some o) → R (.ok (.ret res)) { s with heap := h', toks := tk }) →
      codeAny (model prog w) A (.builtin "dict.update.loop" ⟨[.ref S, .ref I, .int ix t, res], []⟩) R s
  | [], i, acc, ix, t, s, hsz, hln, ht, hit, hl, hm, hR => by
    refine codeAny_builtin ud_entry ?_
    rw [Around.under_plainId ud_plain _]
    show wpAny _ A.in1 (pyNext (.ref I) >>= _) _ _ s
    refine wpAny_bind (wpAny_pyNext_tuple_end (A := A.in1) hh hit hl (by first | exact Array.getElem?_eq_none (Nat.le_of_eq hsz) | (simp at hsz; simp; omega)) fun h' he => ?_)
    show wpAny _ A.in1 (Builtin.Dict.addKeywords S [] >>= _) _ _ _
    refine wpAny_bind (wpAny_pure (wpAny_pure ?_))
    exact hR h' s.toks (hm.extBut he hSI) fun b o _ hb e => he b o hb e
  | q :: rest, i, acc, ix, t, s, hsz, hln, ht, hit, hl, hm, hR => by
    obtain ⟨b, u, hb, hbS, hbI, htup, hk⟩ := ht 0 q rfl
    rw [List.length_cons] at hsz hln
    refine codeAny_builtin ud_entry ?_
    rw [Around.under_plainId ud_plain _]
    show wpAny _ A.in1 (pyNext (.ref I) >>= _) _ _ s
    refine wpAny_bind (wpAny_pyNext_tuple_item (x := .ref b) hit hl (by simpa using hb) fun h1 hit1 hs1 => ?_)
    have ht1 : IsTup h1 b #[u, q.2] := htup.extBut hs1.extBut hbI
    have hl1 : h1.IsTuple l items := hl.at fun o e => hs1.extBut l o hlI e
    have hm1 : h1.DictOf (mixKind prog w) S acc := hm.extBut hs1.extBut hSI
    obtain ⟨o, ho, hc, n, hd⟩ := id ht1
    show wpAny _ A.in1 (holding [Value.ref b] _ >>= _) _ _ _
    refine wpAny_bind (wpAny_holding ?_)
    refine wpAny_bind (wpAny_tryCatch ?_)
    unfold Builtin.Dict.pairItems
    refine wpAny_bind (wpAny_typeOf (T := "tuple") ⟨o, ho, hc⟩ ?_)
    rw [if_pos (by first | decide | rfl | simp)]
    refine wpAny_bind (wpAny_seqItems ho hd (wpAny_pure ?_))
    show wpAny _ A.in1 (holding [u, q.2] (dictSet S u q.2)) _ _ _
    refine wpAny_holding (wpAny_dictSet_pairs (knd := mixKind prog w) (k := q.1) hk hm1 (fun h2 hm2 hs2 => ?_) (by omega))
    refine wpAny_pure ⟨plainId_quiet ud_plain _, upd_loopT (items := items) hh hlI hSI hSl rest (i + 1) (stored acc q.1 q.2) (ix + 1) 0 _ (show items.size = i + 1 + rest.length by omega) ?_ (fun j q' e => ?_) ?_ ?_ hm2 fun h' tk hd' k => ?_⟩
    · have z := stored_length_le acc q.1 q.2
      omega
    · obtain ⟨b', u', hb', hbS', hbI', htup', hk'⟩ := ht (j + 1) q' (by simpa using e)
      refine ⟨b', u', ?_, hbS', hbI', (htup'.extBut hs1.extBut hbI').extBut hs2.extBut hbS', hk'⟩
      rw [show i + 1 + j = i + (j + 1) by omega]
      exact hb'
    · exact hit1.at fun o' e => hs2.extBut I o' (Ne.symm hSI) e
    · exact hl1.at fun o' e => hs2.extBut l o' (Ne.symm hSl) e
    · exact hR h' tk hd' fun c oc h3 h4 e => k c oc h3 h4 (hs2.extBut c oc h3 (hs1.extBut c oc h4 e))
/-- dict(t) of a tuple of pairs -/
theorem call_dict_tup {s : Shared} {l : Addr} {ol : Obj} {items : Array Value} {n : Nat} {prs : List (Key × Value)} {Q : Value → Shared → Prop} (hh : A.handled = none) (hl : s.heap.get? l = some ol) (hc : ol.cls = .type "tuple") (hd : ol.dict = none)
    (hdat : ol.data = .seq items n) (hsz : items.size = prs.length) (hln : prs.length ≤ sizeLine)
    (ht : ∀ (j : Nat) (q : Key × Value), prs[j]? = some q → ∃ (b : Addr) (u : Value), items[j]? = some (.ref b) ∧ IsTup s.heap b #[u, q.2] ∧ keyIs q.1 u = true)
    (h : ∀ h' tk, h'.DictOf (mixKind prog w) s.heap.objs.size (merged [] prs) → (∀ b o, s.heap.get? b = some o → h'.get? b = some o) → Q (.ref s.heap.objs.size) { s with heap := h', toks := tk }) :
    wpAny (model prog w) A (call (.type "dict") [.ref l]) Q E s := by
  refine callType_codes (Q₁ := fun obj s₁ => obj = .ref s.heap.objs.size ∧ s₁ = { s with heap := s.heap.push { cls := .type "dict", data := .dict #[] } }) PySem.F.kt_called_dict (PySem.F.kt_typeCall_dict_1 _) PySem.F.entry_dict_init (kt_code_dict_new _ ⟨rfl, rfl⟩) ?_
  rintro obj s₁ ⟨rfl, rfl⟩
  have hnew : (s.heap.push { cls := .type "dict", data := .dict #[] }).DictOf (mixKind prog w) s.heap.objs.size [] := Heap.DictOf.new s.heap
  have k0 : ∀ b o, s.heap.get? b = some o → (s.heap.push { cls := .type "dict", data := .dict #[] }).get? b = some o := fun b o e => Heap.get?_push_of_some _ e
  refine ⟨hnew.typeIs, PySem.F.args_dict_init_2 _ _, ?_⟩
  unfold Builtin.«dict.__init__»
  refine wpAny_bind ?_
  unfold Builtin.Dict.selfAndRest
  refine wpAny_bind (wpAny_notOrdered_dict hnew.typeIs ?_)
  show wpAny _ _ (pure (s.heap.objs.size, [Value.ref l])) _ _ _
  refine wpAny_pure ?_
  show wpAny _ _ (Builtin.Dict.updateFrom "dict.__init__" s.heap.objs.size (.ref l) [] .none) _ _ _
  unfold Builtin.Dict.updateFrom
  refine wpAny_bind (wpAny_typeOf (T := "tuple") ⟨ol, k0 _ _ hl, hc⟩ ?_)
  rw [if_pos (by first | decide | rfl | simp)]
  refine wpAny_bind (getAttrOr_miss_tuple (name := "keys") (k0 _ _ hl) hc hdat hd tuple_keys_none (by decide +kernel) hh (fun h1 tk1 hk1 => ?_) (by first | size_fits | decide +kernel))
  rw [if_pos (show (none : Option Value).isNone = true from rfl)]
  refine wpAny_bind (wpAny_rule ?_)
  have hl1 : h1.IsTuple l items := ⟨ol, hk1 _ _ (k0 _ _ hl), hc, n, hdat⟩
  have hS1 : s.heap.objs.size < h1.objs.size := by
    have e : (s.heap.push { cls := .type "dict", data := .dict #[] }).get? s.heap.objs.size = some { cls := .type "dict", data := .dict #[] } := Heap.get?_push_size _ rfl
    exact Heap.lt_size (hk1 _ _ e)
  refine wpAny_bind (wpAny_pyIter_tuple hl1 ?_)
  have k2 : ∀ b o, h1.get? b = some o → (h1.push { cls := .type "tuple_iterator", data := .fields #[.ref l, .int 0 0] }).get? b = some o := fun b o e => Heap.get?_push_of_some _ e
  have hlt : l < s.heap.objs.size := Heap.lt_size hl
  have key := upd_loopT (prog := prog) (w := w) (A := A.in1) (R := wants (fun r s₂ => r = .none ∧ Q (.ref s.heap.objs.size) s₂) E) (S := s.heap.objs.size) (I := h1.objs.size) (l := l) (items := items) (res := Value.none) hh
    (Nat.ne_of_lt (Nat.lt_trans hlt hS1)) (Nat.ne_of_lt hS1) (Nat.ne_of_gt hlt) prs 0 [] 0 0
    { s with heap := h1.push { cls := .type "tuple_iterator", data := .fields #[.ref l, .int 0 0] }, toks := tk1 } (by rw [hsz, Nat.zero_add]) (by rw [List.length_nil, Nat.zero_add]; exact hln)
    (fun j q e => by
      obtain ⟨b, u, e1, e2, e3⟩ := ht j q e
      have hb : b < s.heap.objs.size := e2.lt
      exact ⟨b, u, by rw [Nat.zero_add]; exact e1, Nat.ne_of_lt hb, Nat.ne_of_lt (Nat.lt_trans hb hS1), e2.keeps fun c o z => k2 _ _ (hk1 _ _ (k0 _ _ z)), e3⟩)
    ⟨_, Heap.get?_push_size _ rfl, rfl, rfl⟩ (hl1.at fun o e => k2 _ _ e) ((hnew.at fun o e => hk1 _ _ e).at fun o e => k2 _ _ e)
    (fun h' tk hd' k => ⟨rfl, h h' tk hd' fun b o e => k b o (Nat.ne_of_lt (Heap.lt_size e)) (Nat.ne_of_lt (Nat.lt_trans (Heap.lt_size e) hS1)) (k2 _ _ (hk1 _ _ (k0 _ _ e)))⟩)
  first
    | exact wpAny_pure ⟨plainId_quiet ud_plain _, key⟩
    | exact wpAny_bind (wpAny_pure (wpAny_pure ⟨plainId_quiet ud_plain _, key⟩))
end
def dictOfT : Dt → Option (List (Int × Dt))
  | .tuple ds => (pairsD ds).map (mergeD [])
  | _ => none
def kDictT (e : SE) : SK := fun ρ W => (e ρ W).bind fun p => ofO (dictOfT p.1) p.2
section
variable {X : Cx} {XE : Str → Hp → Prop}
/-- a data tuple's object -/
theorem plain_obj {pins : List (Addr × Obj)} {σ : L2.St} {F H : Hp} {s : Shared} {a : Addr} {xs : List V} (I : Inv X pins σ H s) (sm : Same F H) (ht : SqT X.K F a xs) (hp : PlT X.K F a xs) : ∃ (its : List Value) (o : Obj) (n : Nat), Vals xs its ∧ s.heap.get? a = some o ∧ o.cls = .type "tuple" ∧ o.dict = none ∧ o.data = .seq its.toArray n ∧ xs.length ≤ sizeLine := by
  obtain ⟨its, r, ⟨o, ho, hc, n, hd⟩, hz⟩ := I.tuple (sqT_mono sm ht)
  refine ⟨its, o, n, r, ho, hc, ?_, hd, hz⟩
  rcases hp with ⟨o', h1, h2⟩ | ⟨o', h1, h2⟩
  · obtain ⟨h3, _⟩ := I.hok a _ (sm _ _ h1)
    rw [ho] at h3
    cases h3
    exact h2
  · have := I.kIn a o' h1
    rw [ho] at this
    cases this
    exact h2
theorem call_dictT (hcalm : X.calm = true) : CallR X (.type "dict") (fun xs H Q => ∃ (F : Hp) (a : Addr) (ps : List Addr) (kvs : List (Key × V)), Same F H ∧ xs = [.ref a] ∧ SqT X.K F a (ps.map V.ref) ∧ PlT X.K F a (ps.map V.ref) ∧ Paired (fun p kv => SqT X.K H p [kV kv.1, kv.2]) ps kvs ∧
    ∀ p, H p = none → Q (.ref p) (upd H p (.dK (mergeK [] kvs)))) := by
  intro pins s σ H xs us Q I r q
  obtain ⟨F, a, ps, kvs, sm, ex, hq, hpl, hp, q⟩ := q
  subst ex
  obtain ⟨u, eu, rx⟩ := vals1 r
  subst eu
  cases rx
  obtain ⟨its, o, n, rv, ho, hc, hd, hdat, hz⟩ := plain_obj I sm hq hpl
  have ei := refs_at rv
  subst ei
  rw [List.length_map] at hz
  obtain ⟨prs, rel, hl, hpr⟩ := L2.pairs_of I hp
  refine call_dict_tup (prs := prs) (I.ok.hd hcalm) ho hc hd hdat (by simp [hl]) (by rw [hl]; exact hz) (fun j q' e => ?_) fun h' tk hd' k => ?_
  · obtain ⟨b, u, e1, e2, e3⟩ := hpr j q' e
    exact ⟨b, u, by simp [e1], e2, e3⟩
  · have hm : (s.heap.objs.size == sysModules) = false := beq_eq_false_iff_ne.mpr (Nat.ne_of_gt I.big)
    have hlen : (mergeK [] kvs).length ≤ sizeLine := by
      refine Nat.le_trans (length_mergeK kvs []) ?_
      rw [List.length_nil, Nat.zero_add, rel.length, hl]
      exact hz
    exact ⟨.ref s.heap.objs.size, upd H s.heap.objs.size (.dK (mergeK [] kvs)), I.laid (t' := tk) k (Nat.le_refl _) (show ObjOk X.prog X.w _ _ _ (.dK (mergeK [] kvs)) from ⟨hlen, hm, merged [] prs, KV.merge rel .nil, hd'⟩), rfl, q _ (I.hok.fresh (Nat.le_refl _))⟩
variable {e : Expr} {fe : SE} {p pos : Pos}
theorem k_dictT (hc : X.calm = true) (hg : Gl X "dict") (hm : X.mg "dict" = none) (hv : bootBuiltins "dict" = some (.type "dict")) (he : PE X e (tE X.K XE fe)) (hs : starEach [e] X.env = [(false, eval e X.env)] := by rfl) : PE X (.Call (.Name "dict" p) [e] [] pos) (tDk X.K XE (kDictT fe)) := by
  refine (pe_callTy (call_dictT hc) hg hm hv (pa_cons he pa_nil hs) (by decide) (by decide) hs (by rfl)).weak fun σ H Q ⟨G, ρ, W, F, R, p⟩ => ?_
  refine ⟨G, ρ, W, F, R, p.of_bind.mono fun d W1 q v F1 H1 s1 R1 hv => ?_⟩
  obtain ⟨kvs, hk, q2⟩ := q.of_ofO
  cases d <;> try (cases hk; done)
  rename_i ds
  have hk : (pairsD ds).map (mergeD []) = some kvs := hk
  cases hp : pairsD ds with
  | none => rw [hp] at hk; cases hk
  | some r =>
    rw [hp] at hk
    cases hk
    cases hv with
    | tup h1 h2 h3 =>
      obtain ⟨ps, us, rfl, w1, w2⟩ := Sx.pairs_of h2 hp
      refine ⟨F1, _, ps, us, R1.fh, rfl, h1, h3, paired_mono R1.fh w1, fun np hnp => ?_⟩
      have g : Gr0 X.K F1 H1 F1 (upd H1 np (.dK (mergeK [] us))) := .newH R1.fh hnp
      exact q2 np _ F1 _ s1 (R1.grow g) (R1.fresh hnp) upd_same (R1.fh.free hnp) (KvOk.merge w2 .nil)
end
end Sx

/-! Sx21: tables: dicts whose keys are tuples of ints. -/
namespace Sx
open PySem PySem.Spec PyProof.Rows L2
theorem entry_ind {P P' : Program} {w w' : World} {ks : List Int} {b : Addr} {u : Value} : entryOfKey (tupleKind (mixKind P w)) (ks.map Sum.inl, b, u) = entryOfKey (tupleKind (mixKind P' w')) (ks.map Sum.inl, b, u) := by
  unfold entryOfKey
  have : (tupleKind (mixKind P w)).hash (ks.map Sum.inl) = (tupleKind (mixKind P' w')).hash (ks.map Sum.inl) := by
    show tupleKeyHash (mixKind P w) (ks.map Sum.inl) = tupleKeyHash (mixKind P' w') (ks.map Sum.inl)
    unfold tupleKeyHash
    rw [List.map_map, List.map_map]
    rfl
  rw [this]
def IntKeys (xs : List (List Key × Addr × Value)) : Prop := ∀ x ∈ xs, ∃ ks : List Int, x.1 = ks.map Sum.inl
theorem entries_ind {P P' : Program} {w w' : World} {xs : List (List Key × Addr × Value)} (h : IntKeys xs) : xs.map (entryOfKey (tupleKind (mixKind P w))) = xs.map (entryOfKey (tupleKind (mixKind P' w'))) := by
  refine List.map_congr_left fun x hx => ?_
  obtain ⟨ks, hk⟩ := h x hx
  obtain ⟨k, b, u⟩ := x
  have hk : k = ks.map Sum.inl := hk
  rw [hk]
  exact entry_ind
section
variable {X : Cx} {pins : List (Addr × Obj)} {σ : L2.St} {H : Hp} {s : Shared}
theorem key_sqT {ks : List Int} {b : Addr} (I : Inv X pins σ H s) (h : SqT X.K H b (ks.map V.int)) : (tupleKind (mixKind X.prog X.w)).is s.heap (ks.map Sum.inl) b := by
  obtain ⟨its, r, ⟨o, h1, h2, n, h3⟩, _⟩ := I.tuple h
  have e : ks.map V.int = (ks.map Sum.inl : List Key).map kV := by rw [List.map_map]; rfl
  rw [e] at r
  exact ⟨o, its.toArray, n, h1, h2, h3, by simpa using items_are r⟩
def KeysAt (K : PySem.W.Frag) (H : Hp) (xs : List (List Key × Addr × Value)) : Prop := ∀ x ∈ xs, ∃ ks : List Int, x.1 = ks.map Sum.inl ∧ SqT K H x.2.1 (ks.map V.int)
theorem KeysAt.ints {K : PySem.W.Frag} {xs : List (List Key × Addr × Value)} (h : KeysAt K H xs) : IntKeys xs := fun x hx => let ⟨ks, h1, _⟩ := h x hx; ⟨ks, h1⟩
theorem tab_at {a : Addr} {xs : List (List Key × Addr × Value)} (I : Inv X pins σ H s) (e : H a = some (TabO a xs)) (hk : KeysAt X.K H xs) : xs.length ≤ sizeLine ∧ (a == sysModules) = false ∧ s.heap.DictOfH (tupleKind (mixKind X.prog X.w)) a xs := by
  obtain ⟨⟨⟨z, y, nd⟩, o, es, ep, h1, h2, h3, h4⟩, _, _⟩ := I.hok a _ e
  refine ⟨z, y, o, es, ep, h1, h2, h3, h4 X.prog X.w, fun x hx => ?_, nd⟩
  obtain ⟨ks, e1, e2⟩ := hk x hx
  rw [e1]
  exact key_sqT I e2
theorem tab_laid {P : Program} {w : World} {H' : Hp} {h : Heap} {a : Addr} {xs : List (List Key × Addr × Value)} (z : xs.length ≤ sizeLine) (y : (a == sysModules) = false) (hk : IntKeys xs) {P' : Program} {w' : World} (dd : h.DictOfH (tupleKind (mixKind P' w')) a xs) : ObjOk P w H' h a (TabO a xs) := by
  obtain ⟨o, es, ep, h1, h2, h3, h4, _, h5⟩ := dd
  refine ⟨⟨⟨z, y, h5⟩, o, es, ep, h1, h2, h3, fun P w => by rw [h4]; exact entries_ind hk⟩, ⟨o, h1⟩, fun h1' h2' ⟨c, o', es', ep', q1, q2, q3, q4⟩ st => ⟨c, o', es', ep', st _ q1, q2, q3, q4⟩⟩
end
/-! ### readings -/
def keyOf : Dt → Option (List Int)
  | .tuple ds => intsOf ds
  | _ => none
def tabVal (kvs : List (Dt × Dt)) (ks : List Int) : Option Dt := (kvs.find? fun kv => decide (keyOf kv.1 = some ks)).map (·.2)
def getT : Dt → Dt → Option Dt
  | .dict kvs, k => (keyOf k).bind (tabVal kvs)
  | _, _ => none
theorem intsOf_mapK : ∀ ks : List Int, intsOf (ks.map PyData.int) = some ks
  | [] => rfl
  | k :: ks => by
    have := intsOf_mapK ks
    show intsOf (.int k :: ks.map PyData.int) = _
    unfold intsOf
    rw [this]
    rfl
theorem inl_inj : ∀ {a b : List Int}, (a.map Sum.inl : List Key) = b.map Sum.inl → a = b
  | [], [], _ => rfl
  | [], _ :: _, h => by cases h
  | _ :: _, [], h => by cases h
  | x :: xs, y :: ys, h => by
    rw [List.map_cons, List.map_cons] at h
    injection h with h1 h2
    rw [Sum.inl.inj h1, inl_inj h2]
section
variable {K : PySem.W.Frag} {F H : Hp}
theorem DqTab.keys : ∀ {xs : List (List Key × Addr × Value)} {kvs : List (Dt × Dt)}, DqTab K F xs kvs → KeysAt K F xs
  | _, _, .nil => fun x hx => by cases hx
  | _, _, .cons (ks := ks) h _ _ t => fun x hx => by
    rcases List.mem_cons.mp hx with z | z
    · rw [z]; exact ⟨ks, rfl, h⟩
    · exact DqTab.keys t x z
theorem KeysAt.mono (s : Same F H) {xs : List (List Key × Addr × Value)} (h : KeysAt K F xs) : KeysAt K H xs := fun x hx => let ⟨ks, h1, h2⟩ := h x hx; ⟨ks, h1, sqT_mono s h2⟩
theorem DqTab.len : ∀ {xs : List (List Key × Addr × Value)} {kvs : List (Dt × Dt)}, DqTab K F xs kvs → xs.length = kvs.length
  | _, _, .nil => rfl
  | _, _, .cons _ _ _ t => by rw [List.length_cons, List.length_cons, DqTab.len t]
theorem DqTab.find {ks : List Int} : ∀ {xs : List (List Key × Addr × Value)} {kvs : List (Dt × Dt)}, DqTab K F xs kvs → (atKey xs (ks.map Sum.inl) = none ∧ tabVal kvs ks = none) ∨ ∃ b u v d, atKey xs (ks.map Sum.inl) = some (b, u) ∧ L2.RelV v u ∧ tabVal kvs ks = some d ∧ Dq K F v d
  | _, _, .nil => .inl ⟨rfl, rfl⟩
  | _, _, .cons (ks := js) (b := b) (u := u) (v := v) (d := d) h r g t => by
    by_cases e : js = ks
    · subst e
      refine .inr ⟨b, u, v, d, by unfold atKey; simp, r, ?_, g⟩
      unfold tabVal
      rw [List.find?_cons]
      have : keyOf (.tuple (js.map PyData.int)) = some js := intsOf_mapK js
      simp [this]
    · have e1 : ∀ xs, atKey ((js.map Sum.inl, b, u) :: xs) (ks.map Sum.inl : List Key) = atKey xs (ks.map Sum.inl) := fun xs => by
        unfold atKey
        rw [List.find?_cons]
        have : ¬ ((js.map Sum.inl : List Key) = ks.map Sum.inl) := fun z => e (inl_inj z)
        simp [this]
      have e2 : ∀ kvs, tabVal ((.tuple (js.map PyData.int), d) :: kvs) ks = tabVal kvs ks := fun kvs => by
        unfold tabVal
        rw [List.find?_cons]
        have : keyOf (.tuple (js.map PyData.int)) = some js := intsOf_mapK js
        have h2 : ¬ (some js = some ks) := fun z => e (Option.some.inj z)
        simp [this, e]
      rw [e1, e2]
      exact DqTab.find t
theorem DqTab.snoc {ks : List Int} {b : Addr} {u : Value} {v : V} {d : Dt} (hb : SqT K F b (ks.map V.int)) (r : L2.RelV v u) (hv : Dq K F v d) : ∀ {xs : List (List Key × Addr × Value)} {kvs : List (Dt × Dt)}, DqTab K F xs kvs → DqTab K F (xs ++ [(ks.map Sum.inl, b, u)]) (kvs ++ [(.tuple (ks.map PyData.int), d)])
  | _, _, .nil => .cons hb r hv .nil
  | _, _, .cons h1 h2 h3 t => .cons h1 h2 h3 (DqTab.snoc hb r hv t)
end
section
variable {X : Cx} {XE : Str → Hp → Prop} {a b e value : Expr} {st : Stmt} {fa fk fe : SE} {pos p pos' : Pos} {i : Nat}
/-- t[k] -/
theorem d_tget (hu : X.A.units + 1 < cLine) (ho : PE X a (tE X.K XE fa)) (hk : PE X b (tE X.K XE fk)) (hs : NoSl b) : PE X (.Subscript a b pos) (tE X.K XE (eBin getT fa fk)) := by
  refine ⟨fun pins s σ H Q I ⟨G, ρ, W, F, R, p⟩ => ?_⟩
  have h1 : tE X.K XE fa σ H (fun x H1 => tE X.K XE fk σ H1 fun y H2 => ∃ (F2 : Hp) (c b : Addr) (xs : List (List Key × Addr × Value)) (ks : List Int) (q : Addr × Value) (v : V), Same F2 H2 ∧ x = .ref c ∧ y = .ref b ∧ F2 c = some (TabO c xs) ∧ KeysAt X.K F2 xs ∧ SqT X.K F2 b (ks.map V.int) ∧ atKey xs (ks.map Sum.inl) = some q ∧ L2.RelV v q.2 ∧ Q v H2) := by
    refine ⟨G, ρ, W, F, R, (Pg.of_bind (show Pg XE G ((fa ρ W).bind fun p => (fk ρ p.2).bind fun q => ofO (getT p.1 q.1) q.2) _ from p)).mono fun d W1 q v F1 H1 s1 R1 hv => ⟨G, ρ, W1, F1, R1, q.of_bind.mono fun k W2 q2 y F2 H2 s2 R2 hy => ?_⟩⟩
    obtain ⟨z, hz, q3⟩ := q2.of_ofO
    cases d <;> try (cases hz; done)
    rename_i kvs
    cases hv with
    | tab h1 h2 =>
      have hz : (keyOf k).bind (tabVal kvs) = some z := hz
      cases k <;> try (cases hz; done)
      rename_i ds _
      cases hi : intsOf ds with
      | none =>
        have : keyOf (.tuple ds) = none := hi
        rw [this] at hz; cases hz
      | some ks =>
        have : keyOf (.tuple ds) = some ks := hi
        rw [this] at hz
        have hz : tabVal kvs ks = some z := hz
        cases hy with
        | tup g1 g2 g3 =>
          obtain rfl := ints_vs g2 hi
          have h2' := dqTab_mono s2 _ _ h2
          rcases h2'.find (ks := ks) with ⟨_, e2⟩ | ⟨b', u', v', d', e1, e2, e3, e4⟩
          · rw [e2] at hz; cases hz
          · rw [e3] at hz
            cases hz
            exact ⟨F2, _, _, _, ks, _, v', R2.fh, rfl, rfl, s2 _ _ h1, h2'.keys, g1, e1, e2, q3 v' F2 H2 (s1.trans s2) R2 e4⟩
  refine subD_of PySem.F.slot_dict_getitem.lookup hs (thn (ho.run pins s σ H _ I h1) fun u s1 ⟨x, H1, I1, rx, q1⟩ => thn (hk.run pins s1 σ H1 _ I1 q1) fun iv s2 ⟨y, H2, I2, ry, F2, c, b, xs, ks, q, v, sm, ex, ey, hT, hKs, hb, hat, hrv, hQ⟩ => ?_)
  subst ex ey
  obtain rfl : u = Value.ref c := rx
  obtain rfl : iv = Value.ref b := ry
  obtain ⟨z, hd, dd⟩ := tab_at I2 (sm _ _ hT) (hKs.mono sm)
  exact ⟨dd.typeIs, wpAny_getItem_heap (tupleKind_room_in1 hu) (key_sqT I2 (sqT_mono sm hb)) dd hat ⟨v, H2, I2.tok _, hrv, hQ⟩⟩
/-- {} -/
def tTbN : TE := fun _ H Q => ∀ p, H p = none → Q (.ref p) (upd H p (TabO p []))
theorem pe_tbN : PE X (.Dict [] [] pos) tTbN := ⟨fun pins s σ H Q I h =>
  wpAny_Dict_empty ⟨.ref s.heap.objs.size, _, I.laid (a := s.heap.objs.size) (o := TabO s.heap.objs.size []) (t' := s.toks) (fun _ _ q => Heap.get?_push_of_some _ q) (Nat.le_refl _)
    (tab_laid (P' := X.prog) (w' := X.w) (Nat.zero_le _) (beq_eq_false_iff_ne.mpr (Ne.symm (Nat.ne_of_lt I.big))) (fun x hx => by cases hx) ⟨_, #[], 0, Heap.get?_push_size _ rfl, ⟨rfl, rfl, rfl⟩, rfl, rfl, fun x hx => (by cases hx), List.nodup_nil⟩), rfl, h _ (I.hok.fresh (Nat.le_refl _))⟩⟩
def sTbN (i : Nat) : SS := fun ρ W => if i < ρ.length then .nx (ρ.set i (some (.tb []))) W else .bad
theorem s_tbN (h : PS X st (tAsg tTbN (gName i))) : PS X st (tS X.K XE (sTbN i)) :=
  h.weak fun D σ H ⟨G, ρ, W, F, R, p⟩ => fun np hp => by
    obtain ⟨hi, q⟩ := Po.of_ite p
    have g : Gr0 X.K F H F (upd H np (TabO np [])) := .newH R.fh hp
    exact q _ _ F _ (G.own_same i np) (.refl _) ((R.grow g).takeSv (sv := .tb []) hi (R.fresh hp) upd_same (R.fh.free hp) ⟨np, [], rfl, rfl, upd_same, .nil⟩)
/-- t[k] = v, k not yet there -/
def nxTb (i : Nat) (kvs : List (Dt × Dt)) (k d : Dt) (ρ : Sl) (W : Tw) : Out := match keyOf k with
  | some ks => if (tabVal kvs ks).isNone = true ∧ kvs.length < 100000 then .nx (ρ.set i (some (.tb (kvs ++ [(.tuple (ks.map PyData.int), d)])))) W else .bad
  | none => .bad
def sTput (i : Nat) (k e : SE) : SS := fun ρ W => match ρ[i]? with
  | some (some (.tb kvs)) => rOut (e ρ W) fun d W1 => rOut (k ρ W1) fun kd W2 => nxTb i kvs kd d ρ W2
  | _ => .bad
end
def frzT (i : Nat) (ρ : Sl) : Sl := match ρ[i]? with
  | some (some (.tb kvs)) => ρ.set i (some (.d (.dict kvs)))
  | _ => ρ
theorem Rel.frzT {K : PySem.W.Frag} {G : Gh} {ρ : Sl} {W : Tw} {σ : L2.St} {F H : Hp} (R : Rel K G ρ W σ F H) (i : Nat) : ∃ G' F', SameB G G' ∧ Same F F' ∧ Rel K G' (Sx.frzT i ρ) W σ F' H := by
  unfold Sx.frzT
  split
  · rename_i kvs hs
    obtain ⟨v, h1, p, xs, rfl, h3, h4, h5⟩ := R.sl i _ hs
    have hi : i < ρ.length := (List.getElem?_eq_some_iff.mp hs).1
    have hm : p ∈ G.fp i := by rw [h3]; simp
    obtain ⟨q1, q2, q3, q4⟩ := R.fr i p hm
    have sF : Same F (upd F p (TabO p xs)) := same_new q1
    refine ⟨{ G with fp := fun j => if j = i then [] else G.fp j }, upd F p (TabO p xs), ⟨rfl, rfl, rfl, rfl, rfl⟩, sF, ⟨⟨R.gr.ff.trans sF, fun a u e => ?_, fun a e => ?_, R.gr.kp, R.gr.th, fun t => (R.gr.tb t).ff q1 h4 nt_tab⟩, by rw [List.length_set]; exact R.len, R.t0, R.t1, ?_, fun j sv e => ?_, fun j k a ha hb => ?_, fun j a ha => ?_, fun e he => ?_, R.xt, R.tb.ff q1 h4 nt_tab, R.kk⟩⟩
    · by_cases ha : a = p
      · subst ha; rw [upd_same] at e; cases e; exact h4
      · rw [upd_ne ha] at e; exact R.fh a u e
    · by_cases ha : a = p
      · subst ha; exact .inr q3
      · rw [upd_ne ha] at e; exact R.gr.nw a e
    · have t := R.tw
      revert t
      show TwOk K F H G.T W → TwOk K (upd F p (TabO p xs)) H G.T W
      cases hT : G.T <;> cases W <;> intro t
      · trivial
      · exact t
      · exact t
      · obtain ⟨tv, t1, t2, t3⟩ := t
        exact ⟨tv, t1, by rw [upd_ne (fun z => q4 (by rw [hT, z]))]; exact t2, t3.mono sF⟩
    · by_cases hj : i = j
      · subst hj
        rw [List.getElem?_set_self hi] at e
        cases e
        exact ⟨.ref p, h1, .tab upd_same (dqTab_mono sF _ _ h5)⟩
      · rw [List.getElem?_set_ne hj] at e
        obtain ⟨v, e1, e2⟩ := R.sl j sv e
        refine ⟨v, e1, ?_⟩
        simp only [if_neg (Ne.symm hj)]
        exact e2.keep sF fun _ _ e _ _ => e
    · simp only at ha hb
      by_cases hj : j = i
      · rw [if_pos hj] at ha; cases ha
      · by_cases hk : k = i
        · rw [if_pos hk] at hb; cases hb
        · rw [if_neg hj] at ha; rw [if_neg hk] at hb; exact R.dj j k a ha hb
    · simp only at ha
      by_cases hj : j = i
      · rw [if_pos hj] at ha; cases ha
      · rw [if_neg hj] at ha
        obtain ⟨e1, e2, e3, e4⟩ := R.fr j a ha
        exact ⟨by rw [upd_ne (fun z => hj (R.dj j i p (by rw [← z]; exact ha) hm))]; exact e1, e2, e3, e4⟩
    · obtain ⟨e1, e2, e3, e4⟩ := R.ex e he
      refine ⟨e1, by rw [upd_ne (fun z => e4 i (by rw [z]; exact hm))]; exact e2, e3, fun j hj => ?_⟩
      simp only at hj
      by_cases hk : j = i
      · rw [if_pos hk] at hj; cases hj
      · rw [if_neg hk] at hj; exact e4 j hj
  · exact ⟨G, F, .refl G, .refl F, R⟩
section
variable {X : Cx} {XE : Str → Hp → Prop} {a b e value : Expr} {st : Stmt} {fa : SS} {fk fe : SE} {pos p pos' : Pos} {i : Nat} {x : Str}
theorem s_frzT (i : Nat) (h : PS X st (tS X.K XE fa)) : PS X st (tS X.K XE (fun ρ W => fa (frzT i ρ) W)) := by
  refine h.weak fun D σ H ⟨G, ρ, W, F, R, p⟩ => ?_
  obtain ⟨G', F', b, s, R'⟩ := R.frzT i
  exact ⟨G', frzT i ρ, W, F', R', p.shift b s⟩
def sTPutR (K : PySem.W.Frag) (td ty tv : TE) : TS := fun D σ H => tv σ H fun v H1 => td σ H1 fun x H2 => ty σ H2 fun y H3 => ∃ (c b : Addr) (xs : List (List Key × Addr × Value)) (ks : List Int), x = .ref c ∧ y = .ref b ∧ H3 c = some (TabO c xs) ∧ KeysAt K H3 xs ∧ SqT K H3 b (ks.map V.int) ∧ atKey xs (ks.map Sum.inl) = none ∧ xs.length < sizeLine ∧
  ∀ u, L2.RelV v u → D.nx σ (upd H3 c (TabO c (xs ++ [(ks.map Sum.inl, b, u)])))
theorem ps_tput {o k : Expr} {td ty tv : TE} (hu : X.A.units + 1 < cLine) (ho : PE X o td) (hi : PE X k ty) (hv : PE X value tv) (hs : swapsWith value (some (.Subscript o k pos')) pos.line X.env = pure false := by rfl) :
    PS X (.Assign [.Subscript o k pos'] value pos) (sTPutR X.K td ty tv) := by
  refine ⟨fun pins s σ H D I h => ?_⟩
  refine wpAny_Assign_Subscript (thn (hv.run pins s σ H _ I h) fun r s1 ⟨v, H1, I1, rv, q1⟩ => thn (ho.run pins s1 σ H1 _ I1 q1) fun u s2 ⟨x, H2, I2, rx, q2⟩ => thn (hi.run pins s2 σ H2 _ I2 q2) fun iv s3 ⟨y, H3, I3, ry, c, b, xs, ks, ex, ey, hT, hKs, hb, hat, hl, q3⟩ => ?_) hs
  subst ex ey
  obtain rfl : u = Value.ref c := rx
  obtain rfl : iv = Value.ref b := ry
  obtain ⟨z, hd, dd⟩ := tab_at I3 hT hKs
  refine wpAny_setItem_heap (hsz := z) (tupleKind_room_in1 hu) (key_sqT I3 hb) dd fun h' dd' hs => ?_
  rw [storedH_new hat] at dd'
  have hIK : IntKeys (xs ++ [(ks.map Sum.inl, b, r)]) := fun x hx => by
    rcases List.mem_append.mp hx with w | w
    · exact hKs.ints x w
    · rw [List.mem_singleton.mp w]; exact ⟨ks, rfl⟩
  have he : ∃ q, h'.get? c = some q := let ⟨q, _, _, hq, _⟩ := dd'; ⟨q, hq⟩
  refine ⟨σ, _, d_write I3 (by rw [hT]; exact True.intro) hs he (tab_laid (by rw [List.length_append]; exact hl) hd hIK dd'), q3 r rv⟩
theorem s_tput (h : PS X st (sTPutR X.K (tVar i) (tE X.K XE fk) (tE X.K XE fe))) : PS X st (tS X.K XE (sTput i fk fe)) := by
  refine h.weak fun D σ H ⟨G, ρ, W, F, R, p⟩ => ?_
  unfold sTput at p
  split at p
  · rename_i kvs hs
    refine ⟨G, ρ, W, F, R, p.of_rOut.mono fun d W1 q v F1 H1 s1 R1 hv => ?_⟩
    obtain ⟨v', h1, np, vs, rfl, h3, h4, h5⟩ := R1.sl i _ hs
    refine ⟨_, h1, G, ρ, W1, F1, R1, q.of_rOut.mono fun kd W2 q2 kv F2 H2 s2 R2 hk => ?_⟩
    obtain ⟨v2, h1', np', xs', e1, h3', h4', h5'⟩ := R2.sl i _ hs
    rw [h1] at h1'
    cases h1'
    cases e1
    unfold nxTb at q2
    split at q2
    · rename_i ks hks
      obtain ⟨⟨hn, hl⟩, q2⟩ := Po.of_ite q2
      cases kd <;> try (cases hks; done)
      have hks : intsOf _ = some ks := hks
      cases hk with
      | tup g1 g2 g3 =>
        obtain rfl := ints_vs g2 hks
        have hat : atKey xs' (ks.map Sum.inl) = none := by
          rcases h5'.find (ks := ks) with ⟨e1, _⟩ | ⟨_, _, _, _, _, _, e3, _⟩
          · exact e1
          · rw [e3] at hn; cases hn
        refine ⟨np, _, xs', ks, rfl, rfl, h4', h5'.keys.mono R2.fh, sqT_mono R2.fh g1, hat, Nat.lt_of_lt_of_le (by rw [h5'.len]; exact hl) (sz5 (Nat.le_refl _)), fun u hu => ?_⟩
        exact q2 G σ F2 _ (.refl _) (s1.trans s2) (R2.mutAt hs h1 h4' nt_tab h3' ⟨np, _, rfl, rfl, upd_same, h5'.snoc g1 hu (hv.mono s2)⟩)
    · exact q2.elim
  · exact p.elim
end
end Sx

/-! Sx22: comprehensions with two fors. -/
namespace Sx
open PySem PySem.Spec PyProof.Rows L2
theorem walk_ex {J : It} {n : Nat} {Gd : Hp → Prop} {Y : Nat → Hp → V → Hp → Prop} (w : Walk J n Gd Y) {Body : V → Hp → (Hp → Prop) → Prop} {H0 : Hp} {Fin : Hp → Prop} (Pv : Nat → Hp → Prop) (h0 : Pv 0 H0) (hG : ∀ i H, i ≤ n → Pv i H → Gd H)
    (hs : ∀ i x H H', i < n → Pv i H → Y i H x H' → Body x H' (Pv (i + 1))) (hd : ∀ H, Pv n H → Fin H) :
    ∃ W : Nat → Nat → Hp → Prop, (∃ m, W 0 m H0) ∧ ∀ i m H, W i m H → (J.stop i H ∧ Fin H) ∨ (J.go i H ∧ ∃ Nx : Hp → Prop, (∀ H', Nx H' → ∃ m', m' < m ∧ W (i + 1) m' H') ∧ ∀ x H', J.yld i H x H' → Body x H' Nx) := by
  refine ⟨fun i m H => m = n - i ∧ i ≤ n ∧ Pv i H, ⟨n, by simp, Nat.zero_le _, h0⟩, ?_⟩
  rintro i m H ⟨rfl, hi, p⟩
  have q := hG i H hi p
  by_cases hlt : i < n
  · exact .inr ⟨w.goes i H hlt q, Pv (i + 1), fun H' p' => ⟨n - (i + 1), by omega, rfl, hlt, p'⟩, fun x H' y => hs i x H H' hlt p (w.yields i H x H' hlt q y)⟩
  · have e : i = n := by omega
    subst e
    exact .inl ⟨w.stops H q, hd H p⟩
def cLL (g : SG) (it1 : SA) (g1 : SG) (e : SE) (vs1 : List Nat) (ρ0 : Sl) : List Dt → Tw → Res (List Dt × Tw)
  | [], W => .ok ([], W)
  | d :: ds, W => match g d ρ0 with
    | none => .bad
    | some ρ1 => (it1 ρ1 W).bind fun p => if p.1.length ≤ 1000 ∧ wipeOk ρ1 vs1 = true then (cL g1 bYes e (wipeS ρ1 vs1) p.1 p.2).bind fun q => (cLL g it1 g1 e vs1 ρ0 ds q.2).bind fun r => .ok (q.1 ++ r.1, r.2) else .bad
def lComp2 (it : SA) (g : SG) (it1 : SA) (g1 : SG) (e : SE) (vs vs1 : List Nat) : SA := fun ρ W => (it ρ W).bind fun p => if p.1.length ≤ 90 ∧ wipeOk ρ vs = true then nox (cLL g it1 g1 e vs1 (wipeS ρ vs) p.1 p.2) else .bad
theorem cLL_cases {g : SG} {it1 : SA} {g1 : SG} {e : SE} {vs1 : List Nat} {ρ0 : Sl} {d : Dt} {ds : List Dt} {W : Tw} {zs : List Dt} {Wf : Tw} (h : cLL g it1 g1 e vs1 ρ0 (d :: ds) W = .ok (zs, Wf)) :
    ∃ ρ1 ds1 W1 zs1 W2 r, g d ρ0 = some ρ1 ∧ it1 ρ1 W = .ok (ds1, W1) ∧ ds1.length ≤ 1000 ∧ wipeOk ρ1 vs1 = true ∧ cL g1 bYes e (wipeS ρ1 vs1) ds1 W1 = .ok (zs1, W2) ∧ cLL g it1 g1 e vs1 ρ0 ds W2 = .ok (r, Wf) ∧ zs = zs1 ++ r := by
  unfold cLL at h
  cases hg : g d ρ0 with
  | none => rw [hg] at h; cases h
  | some ρ1 =>
    simp only [hg] at h
    cases hi : it1 ρ1 W with
    | exc x => rw [hi] at h; cases h
    | bad => rw [hi] at h; cases h
    | ok p =>
      obtain ⟨ds1, W1⟩ := p
      rw [hi] at h
      simp only [Res.bind_ok] at h
      split at h
      · rename_i hc
        cases hz : cL g1 bYes e (wipeS ρ1 vs1) ds1 W1 with
        | exc x => rw [hz] at h; cases h
        | bad => rw [hz] at h; cases h
        | ok q =>
          obtain ⟨zs1, W2⟩ := q
          rw [hz] at h
          simp only [Res.bind_ok] at h
          cases hr : cLL g it1 g1 e vs1 ρ0 ds W2 with
          | exc x => rw [hr] at h; cases h
          | bad => rw [hr] at h; cases h
          | ok r =>
            rw [hr] at h
            simp only [Res.bind_ok, Res.ok.injEq, Prod.mk.injEq] at h
            obtain ⟨h1, h2⟩ := h
            exact ⟨ρ1, ds1, W1, zs1, W2, r.1, rfl, hi, hc.1, hc.2, hz, by rw [hr, ← h2], h1.symm⟩
      · cases h
section
variable {X : Cx} {XE : Str → Hp → Prop} {it it1 : SA} {g g1 : SG} {e : SE} {is is1 vs vs1 : List Nat}
theorem comp_of2 {D0 D1 : Rl} (hsub : ∀ j ∈ is, j ∈ vs) (hsub1 : ∀ j ∈ is1, j ∈ vs1) (hv : ∀ j ∈ vs1, j ∈ vs) {σ : L2.St} {H : Hp} {Q : VK} (h : tL X.K XE (lComp2 it g it1 g1 e vs vs1) σ H Q) :
    tLc2 (tI D0 X.K XE it) (tG D0 X.K is g) (tT X.K X0 bYes) (tI D1 X.K X0 it1) (tG D1 X.K is1 g1) (tT X.K X0 bYes) (tE X.K X0 e) vs vs1 σ H Q := by
  obtain ⟨G, ρ, W, F, R, p⟩ := h
  refine ⟨G, ρ, W, F, R, p.of_bind.mono fun ds W1 q J F1 H1 s1 R1 wk D hD => ?_⟩
  obtain ⟨⟨hlen, hok⟩, q⟩ := Pg.of_ite q
  simp only at hlen
  have hcl : ∃ zs Wf, cLL g it1 g1 e vs1 (wipeS ρ vs) ds W1 = .ok (zs, Wf) := by
    cases hz : cLL g it1 g1 e vs1 (wipeS ρ vs) ds W1 with
    | ok r => exact ⟨r.1, r.2, rfl⟩
    | exc x => simp only [hz] at q; exact q.elim
    | bad => simp only [hz] at q; exact q.elim
  obtain ⟨zs, Wf, hcl⟩ := hcl
  simp only [hcl, nox_ok] at q
  have fr := R1.fresh hD
  have RD : Rel X.K { G with ext := (D, .lst []) :: G.ext } (wipeS ρ vs) W1 (wipe σ vs) F1 (upd H1 D (.lst [])) :=
    ((R1.grow (Gr.newH R1.fh hD)).aside upd_same (R1.fh.free hD) fr).wiped vs
  refine walk_ex wk (fun i H2 => ∃ Wi Fi av acc rest, Rel X.K { G with ext := (D, .lst av) :: G.ext } (wipeS ρ vs) Wi (wipe σ vs) Fi H2 ∧ Same F1 Fi ∧ DqAll X.K Fi av acc ∧ cLL g it1 g1 e vs1 (wipeS ρ vs) (ds.drop i) Wi = .ok (rest, Wf) ∧ zs = acc ++ rest ∧ acc.length ≤ 1000 * i)
    ⟨W1, F1, [], [], zs, RD, .refl _, .nil, by rw [List.drop_zero]; exact hcl, rfl, Nat.le_refl _⟩ (fun i H2 _ ⟨Wi, Fi, _, _, _, Ri, si, _⟩ => ⟨Fi, si, Ri.fh⟩) ?_ ?_
  · rintro i x H2 H3 hi ⟨Wi, Fi, av, acc, rest, Ri, si, da, hc, hzs, hal⟩ hy
    obtain ⟨F3, d, hd, gr, hx⟩ := hy Fi si Ri.fh
    have hdrop : ds.drop i = d :: ds.drop (i + 1) := by
      obtain ⟨h1, h2⟩ := List.getElem?_eq_some_iff.mp hd
      rw [List.drop_eq_getElem_cons h1, h2]
    rw [hdrop] at hc
    obtain ⟨ρ1, ds1, W2, zs1, W3, r, hg, hit, hl1, hok1, hin, hr, hz⟩ := cLL_cases hc
    have R3 := Ri.grow gr
    refine ⟨_, wipeS ρ vs, Wi, F3, d, ρ1, R3, hx, hg, fun hk σ2 hl hj R4 => ⟨wipe_eq hl hj hsub, _, ρ1, Wi, F3, R4, ?_⟩⟩
    intro F4 H4 s4 R5
    simp only [if_true]
    refine ⟨_, ρ1, Wi, F4, R5, ?_⟩
    rw [hit]
    intro J1 F5 H5 s5 R6 wk1
    have hlenρ : (wipeS ρ1 vs1).length = (wipe σ2 vs1).length := by rw [wipeS_length, wipe_length]; exact R6.len
    refine walk_ex wk1 (fun j H6 => ∃ Wj Fj bv bacc brest, Rel X.K { G with ext := (D, .lst bv) :: G.ext } (wipeS ρ1 vs1) Wj (wipe σ2 vs1) Fj H6 ∧ Same F5 Fj ∧ DqAll X.K Fj bv bacc ∧ cL g1 bYes e (wipeS ρ1 vs1) (ds1.drop j) Wj = .ok (brest, W3) ∧ acc ++ zs1 = bacc ++ brest ∧ bacc.length ≤ acc.length + j)
      ⟨W2, F5, av, acc, zs1, R6.wiped vs1, .refl _, da.mono ((gr.ff.trans s4).trans s5), by rw [List.drop_zero]; exact hin, rfl, Nat.le_refl _⟩ (fun j H6 _ ⟨Wj, Fj, _, _, _, Rj, sj, _⟩ => ⟨Fj, sj, Rj.fh⟩) ?_ ?_
    · rintro j y H6 H7 hj1 ⟨Wj, Fj, bv, bacc, brest, Rj, sj, db, hcb, hzb, hbl⟩ hyj
      have hj1 : j < ds1.length := hj1
      obtain ⟨F7, d1, hd1, gr1, hx1⟩ := hyj Fj sj Rj.fh
      have hdrop1 : ds1.drop j = d1 :: ds1.drop (j + 1) := by
        obtain ⟨h1, h2⟩ := List.getElem?_eq_some_iff.mp hd1
        rw [List.drop_eq_getElem_cons h1, h2]
      rw [hdrop1] at hcb
      obtain ⟨ρ3, b, W5, hg1, hb, hrest⟩ := cL_cases hcb
      have R7 := Rj.grow gr1
      refine ⟨_, wipeS ρ1 vs1, Wj, F7, d1, ρ3, R7, hx1, hg1, fun hk1 σ3 hl3 hj3 R8 => ⟨wipe_eq hl3 hj3 hsub1, _, ρ3, Wj, F7, R8, ?_⟩⟩
      have back : ∀ {W5 : Tw} {F5 H5 : Hp} {av' : List V}, Rel X.K { G with ext := (D, .lst av') :: G.ext } ρ3 W5 σ3 F5 H5 → Rel X.K { G with ext := (D, .lst av') :: G.ext } (wipeS ρ1 vs1) W5 (wipe σ2 vs1) F5 H5 := fun R5 =>
        R5.restrict hlenρ fun j sv ej => by
          obtain ⟨_, hjv⟩ := wipeS_some ej
          exact ⟨by rw [hk1 j fun z => hjv (hsub1 j z)]; exact ej, hj3 j fun z => hjv (hsub1 j z)⟩
      rw [hb]
      have hb : Res.ok (true, Wj) = .ok (b, W5) := hb
      cases hb
      intro F8 H8 s8 R9
      rcases hrest with ⟨z, _⟩ | ⟨_, z, W6, r1, he, hr1, hz1⟩
      · cases z
      · simp only [if_true]
        refine ⟨_, ρ3, Wj, F8, R9, ?_⟩
        rw [he]
        intro v F9 H9 s9 R10 hv9
        obtain ⟨x1, x2, x3, x4⟩ := R10.ex (D, .lst bv) (List.mem_cons_self ..)
        have sF : Same Fj F9 := (gr1.ff.trans s8).trans s9
        have hle : bacc.length < 100000 := by
          have : 1000 * i ≤ 1000 * 90 := Nat.mul_le_mul_left _ (by omega)
          omega
        refine ⟨bv, x1, Nat.lt_of_lt_of_le (by rw [db.length]; exact hle) (sz5 (Nat.le_refl _)), W6, F9, bv ++ [v], bacc ++ [z], r1, back (R10.setExt fr.2.2.2 fr.1), sj.trans sF, (db.mono sF).append (.one hv9), hr1, ?_, ?_⟩
        · rw [hzb, hz1, List.append_assoc]; rfl
        · rw [List.length_append, List.length_singleton]; omega
    · rintro H6 ⟨Wj, Fj, bv, bacc, brest, Rj, sj, db, hcb, hzb, hbl⟩
      rw [List.drop_length] at hcb
      have hcb : Res.ok (([] : List Dt), Wj) = .ok (brest, W3) := hcb
      cases hcb
      rw [List.append_nil] at hzb
      refine ⟨_, Fj, bv, bacc, r, ?_, ((((si.trans gr.ff).trans s4).trans s5).trans sj), db, hr, ?_, ?_⟩
      · refine Rj.restrict (by rw [wipeS_length, wipe_length]; exact R.len) fun j sv ej => ?_
        obtain ⟨_, hjv⟩ := wipeS_some ej
        have h1 : j ∉ vs1 := fun z => hjv (hv j z)
        have h2 : j ∉ is := fun z => hjv (hsub j z)
        exact ⟨by rw [wipeS_out h1, hk j h2]; exact ej, by rw [wipe_out h1]; exact hj j h2⟩
      · rw [hzs, hz, ← hzb, List.append_assoc]
      · have hbl : bacc.length ≤ acc.length + ds1.length := hbl
        rw [Nat.mul_succ]; omega
  · rintro H2 ⟨Wi, Fi, av, acc, rest, Ri, si, da, hc, hzs, hal⟩
    rw [List.drop_length] at hc
    have hc : Res.ok (([] : List Dt), Wi) = .ok (rest, Wf) := hc
    cases hc
    rw [List.append_nil] at hzs
    subst hzs
    obtain ⟨x1, x2, x3, x4⟩ := Ri.ex (D, .lst av) (List.mem_cons_self ..)
    exact q D av Fi H2 (s1.trans si) (R1.unwiped Ri.dropExt si hok) fr x1 x2 da
variable {elt tg iter tg1 iter1 : Expr} {scope : Scope} {own : List (Str × Nat)} {pos : Pos} {st : Stmt} {i : Nat}
theorem l_comp2 {D0 D1 : Rl} (hc : X.calm = true) (hN : X.N.Nodup) (hi : PI X tg iter (tI D0 X.K XE it)) (ok : BlkOk X.N X.env.scope scope own) (hv : ∀ j ∈ vs1, j ∈ own.map (·.2))
    (hg : ∀ (s : Shared) (H : Hp) (C : Addr) (cl : List (Str × Addr)) (fp : List Addr), PG (X.blk s H scope (compEnvC scope cl C X.env) fp) tg (tG D0 X.K is g))
    (hi1 : ∀ (s : Shared) (H : Hp) (C : Addr) (cl : List (Str × Addr)) (fp : List Addr), PI (X.blk s H scope (compEnvC scope cl C X.env) fp) tg1 iter1 (tI D1 X.K X0 it1))
    (hg1 : ∀ (s : Shared) (H : Hp) (C : Addr) (cl : List (Str × Addr)) (fp : List Addr), PG (X.blk s H scope (compEnvC scope cl C X.env) fp) tg1 (tG D1 X.K is1 g1))
    (he : ∀ (s : Shared) (H : Hp) (C : Addr) (cl : List (Str × Addr)) (fp : List Addr), PE (X.blk s H scope (compEnvC scope cl C X.env) fp) elt (tE X.K X0 e)) (hsub : ∀ j ∈ is, j ∈ own.map (·.2)) (hsub1 : ∀ j ∈ is1, j ∈ vs1) (hs : ∀ x, foldedSetIterable iter X.env x = pure x := by intro _; rfl) (hs1 : ∀ env x, foldedSetIterable iter1 env x = pure x := by intro _ _; rfl) :
    PE X (.ListComp elt [⟨tg, iter, [], 0⟩, ⟨tg1, iter1, [], 0⟩] scope pos) (tL X.K XE (lComp2 it g it1 g1 e (own.map (·.2)) vs1)) := (pe_lc2 hc hN hi ok hv hg (fun _ _ _ _ _ => t_yes) hi1 hg1 (fun _ _ _ _ _ => t_yes) he hs hs1).weak fun _ _ _ => comp_of2 hsub hsub1 hv
end
end Sx

namespace Sx
open PySem PySem.Spec PyProof.Rows L2
/-! ### x.count(b), x.index(b): lists of bools, of texts -/
def strsOf : List Dt → Option (List Str)
  | [] => some []
  | .str z :: r => (strsOf r).map (z :: ·)
  | _ => none
def cntD (l x : Dt) : Option Dt := match l, x with
  | .list ds, .bool b => (blsOf ds).map fun bs => .int (bs.count b : Nat)
  | _, _ => none
def idxD (l x : Dt) : Option Dt := match l, x with
  | .list ds, .bool b => (blsOf ds).bind fun bs => if b ∈ bs then some (.int (bs.idxOf b : Nat)) else none
  | .list ds, .str z => (strsOf ds).bind fun zs => if z ∈ zs then some (.int (zs.idxOf z : Nat)) else none
  | _, _ => none
theorem bls_vals {K : PySem.W.Frag} {F : Hp} : ∀ {vs : List V} {ds : List Dt} {bs : List Bool}, DqAll K F vs ds → blsOf ds = some bs → vs = bs.map V.bl
  | _, _, _, .nil, h => by cases h; rfl
  | _, _, _, .cons (d := d) g t, h => by
    cases d <;> simp only [blsOf] at h <;> try (cases h; done)
    rename_i ds b
    cases hb : blsOf ds with
    | none => rw [hb] at h; cases h
    | some r =>
      rw [hb] at h
      cases h
      cases g
      rw [List.map_cons, bls_vals t hb]
theorem strs_vals {K : PySem.W.Frag} {F : Hp} : ∀ {vs : List V} {ds : List Dt} {bs : List Str}, DqAll K F vs ds → strsOf ds = some bs → vs = bs.map V.str
  | _, _, _, .nil, h => by cases h; rfl
  | _, _, _, .cons (d := d) g t, h => by
    cases d <;> simp only [strsOf] at h <;> try (cases h; done)
    rename_i ds b
    cases hb : strsOf ds with
    | none => rw [hb] at h; cases h
    | some r =>
      rw [hb] at h
      cases h
      cases g
      rw [List.map_cons, strs_vals t hb]
theorem bls_items {A : Around} {s : Shared} {b : Bool} : ∀ {us : List Value} {bs : List Bool}, Vals (bs.map V.bl) us → us = bs.map Value.bool
  | _, [], h => by cases h; rfl
  | _, a :: bs, h => by
    cases h with
    | cons r t => rw [List.map_cons, ← bls_items (A := A) (s := s) (b := b) t]; cases r; rfl
theorem bls_eq {A : Around} {s : Shared} {b : Bool} {us : List Value} {bs : List Bool} (h : us = bs.map Value.bool) : SeqAt.ItemsEq A s us bs (.bool b) b := by
  subst h
  refine ⟨by simp, fun j h1 h2 => ?_⟩
  rw [List.getElem_map]
  have := SeqAt.EqAt.bool_bool (A := A) (s := s) bs[j] b
  rw [show decide (bs[j] = b) = (bs[j] == b) by cases bs[j] <;> cases b <;> rfl]
  exact this
theorem strs_eq {A : Around} {s : Shared} {z : Str} {t : Tok} : ∀ {us : List Value} {zs : List Str}, Vals (zs.map V.str) us → SeqAt.ItemsEq A s us zs (.str z t) z
  | _, [], h => by cases h; exact ⟨rfl, fun j h1 _ => absurd h1 (by simp)⟩
  | _, a :: zs, h => by
    cases h with
    | cons r tl =>
      obtain ⟨t', rfl⟩ := r
      obtain ⟨i1, i2⟩ := strs_eq (A := A) (s := s) (z := z) (t := t) tl
      refine ⟨by simp [i1], fun j h1 h2 => ?_⟩
      cases j with
      | zero =>
        have := SeqAt.EqAt.str_str (A := A) (s := s) a t' z t
        rw [show decide ((a :: zs)[0] = z) = (a == z) by rw [Bool.eq_iff_iff]; simp]
        exact this
      | succ j => exact i2 j (by simpa using h1) (by simpa using h2)
/-- a method with one argument that reads data -/
def RM2 (K : PySem.W.Frag) (g : Dt → Dt → Option Dt) : V → List V → Hp → VK → Prop := fun x xs H Q => ∃ y, xs = [y] ∧ RD2 K g x y H Q
theorem RB.sql {K : PySem.W.Frag} {F H : Hp} {x : V} {ds : List Dt} (sm : Same F H) (h : RB K F H x (.list ds)) : ∃ p vs, x = .ref p ∧ SqL K H p vs ∧ DqAll K F vs ds := by
  rcases h with h | ⟨p, vs, ds', rfl, e, hp, ha⟩
  · cases h with
    | lst hs ha => exact ⟨_, _, rfl, sm.seq hs, ha⟩
  · cases e
    exact ⟨p, vs, rfl, .inl (.inl hp), ha⟩
theorem RB.st {K : PySem.W.Frag} {F H : Hp} {x : V} {b : Str} (h : RB K F H x (.str b)) : x = .str b := by
  rcases h with h | ⟨p, vs, ds', rfl, e, hp, ha⟩
  · cases h; rfl
  · cases e
section
variable {X : Cx}
theorem mt_index : MtR X "list.index" (RM2 X.K idxD) := by
  intro pins s σ H x xs v us Q I rx rxs h
  obtain ⟨y, rfl, F, d, e, z, sm, hx, hy, hg, q⟩ := h
  obtain ⟨u, rfl, ru⟩ := rxs.one
  cases d <;> simp only [idxD] at hg <;> try (cases hg; done)
  rename_i ds
  obtain ⟨p, vs, rfl, hs, ha⟩ := hx.sql sm
  cases rx
  obtain ⟨its, rv, hL, hz⟩ := I.list hs
  cases e <;> simp only at hg <;> try (cases hg; done)
  · rename_i b
    obtain rfl := hy.bl
    cases ru
    cases hb : blsOf ds with
    | none => rw [hb] at hg; cases hg
    | some bs =>
      rw [hb] at hg
      simp only [Option.bind_some] at hg
      by_cases hm : b ∈ bs
      · rw [if_pos hm] at hg
        cases hg
        obtain rfl := bls_vals ha hb
        have hi := bls_items (A := X.A) (s := s) (b := b) rv
        refine SeqAt.call_list_index (ks := bs) (k := b) hL.isList (bls_eq hi) (by rw [List.length_map] at hz; exact hz) hm ?_
        exact ⟨.int (bs.idxOf b : Nat), H, I.tok _, ⟨s.toks, rfl⟩, end_int sm rfl q⟩
      · rw [if_neg hm] at hg; cases hg
  · rename_i b
    obtain rfl := hy.st
    obtain ⟨t, rfl⟩ := ru
    cases hb : strsOf ds with
    | none => rw [hb] at hg; cases hg
    | some bs =>
      rw [hb] at hg
      simp only [Option.bind_some] at hg
      by_cases hm : b ∈ bs
      · rw [if_pos hm] at hg
        cases hg
        obtain rfl := strs_vals ha hb
        refine SeqAt.call_list_index (ks := bs) (k := b) hL.isList (strs_eq rv) (by rw [List.length_map] at hz; exact hz) hm ?_
        exact ⟨.int (bs.idxOf b : Nat), H, I.tok _, ⟨s.toks, rfl⟩, end_int sm rfl q⟩
      · rw [if_neg hm] at hg; cases hg
theorem mt_count : MtR X "list.count" (RM2 X.K cntD) := by
  intro pins s σ H x xs v us Q I rx rxs h
  obtain ⟨y, rfl, F, d, e, z, sm, hx, hy, hg, q⟩ := h
  obtain ⟨u, rfl, ru⟩ := rxs.one
  cases d <;> simp only [cntD] at hg <;> try (cases hg; done)
  rename_i ds
  obtain ⟨p, vs, rfl, hs, ha⟩ := hx.sql sm
  cases rx
  obtain ⟨its, rv, ⟨⟨cls, dd, data, sl⟩, n, ho, hc, hdn, hd⟩, hz⟩ := I.list hs
  simp only at hc hd
  subst hc hd
  cases e <;> simp only at hg <;> try (cases hg; done)
  rename_i b
  obtain rfl := hy.bl
  cases ru
  cases hb : blsOf ds with
  | none => rw [hb] at hg; cases hg
  | some bs =>
    rw [hb] at hg
    cases hg
    obtain rfl := bls_vals ha hb
    have hi := bls_items (A := X.A) (s := s) (b := b) rv
    subst hi
    refine call_meets PySem.F.slot_list_count ⟨_, ho, rfl⟩ PySem.F.entry_list_count (PySem.F.args_list_count_2 _ _)
      (SeqAt.list_countAt p _ n dd sl (.bool b) (fun y => match y with | .bool a => a == b | _ => false)) ⟨ho, fun y hy => ?_, ?_⟩
    · obtain ⟨a, _, rfl⟩ := List.mem_map.mp (show y ∈ bs.map Value.bool by simpa using hy)
      exact SeqAt.EqAt.bool_bool a b
    · have ec : ∀ bs : List Bool, (bs.map Value.bool).countP (fun y => match y with | .bool a => a == b | _ => false) = bs.count b := fun bs => by
        rw [List.countP_map]; rfl
      refine ⟨.int (bs.count b : Nat), H, I.tok _, ⟨s.toks, ?_⟩, end_int sm rfl q⟩
      show Value.int (((bs.map Value.bool).toArray.toList.countP (fun y => match y with | .bool a => a == b | _ => false) : Nat) : Int) s.toks = _
      rw [show (bs.map Value.bool).toArray.toList = bs.map Value.bool by simp, ec]
end
def isLst : Dt → Bool
  | .list _ => true
  | _ => false
def eMth (g : Dt → Dt → Option Dt) (a b : SE) : SE := fun ρ W => (a ρ W).bind fun p => if isLst p.1 = true then (b ρ p.2).bind fun q => ofO (g p.1 q.1) q.2 else .bad
section
variable {X : Cx} {XE : Str → Hp → Prop} {o e : Expr} {apos cpos : Pos} {fa fb : SE}
theorem d_mth {name : Str} {id : String} {g : Dt → Dt → Option Dt} (slot : Slot "list" name id) (hty : typeOf (.builtin id) = pure (.type "method_descriptor")) (hm : MtR X id (RM2 X.K g)) (ha : PE X o (tE X.K XE fa)) (hb : PE X e (tE X.K XE fb))
    (hbase : attributeBase o name X.env (eval o X.env) = eval o X.env := by rfl)
    (hfew : ((backTo cpos (starEach [e] X.env)).all (fun x => !x.1) && (backToKw cpos (keywordEach [] X.env)).all (fun x => x.1.isSome)
      && decide (([e]).length + ([] : List Keyword).length + (if ([] : List Keyword).isEmpty then 0 else 1) < 30)) = true := by rfl)
    (hline : (apos.endLine == cpos.line) = true := by rfl) (hs : starEach [e] X.env = (false, eval e X.env) :: starEach [] X.env := by rfl) (hplain : (backTo cpos (starEach [] X.env)).any (·.1) = false := by rfl) :
    PE X (.Call (.Attribute o name apos) [e] [] cpos) (tE X.K XE (eMth g fa fb)) := by
  refine (pe_bm (T := "list") (id := id) PySem.F.plainAttrs_list slot hty hm ha (pa_cons hb pa_nil hs) hbase hfew hline hs hplain).weak fun σ H Q ⟨G, ρ, W, F, R, p⟩ => ?_
  refine ⟨G, ρ, W, F, R, p.of_bind.mono fun d W1 q v F1 H1 s1 R1 hv => ?_⟩
  obtain ⟨hl, q⟩ := Pg.of_ite q
  have hty : tyV X.K "list" v H1 := by
    cases d <;> try (cases hl; done)
    cases hv with
    | lst hs ha => exact .inl ⟨rfl, _, R1.fh.seq hs⟩
  refine ⟨hty, G, ρ, W1, F1, R1, q.of_bind.mono fun e2 W2 q2 y F2 H2 s2 R2 hy => ?_⟩
  obtain ⟨z, hz, q3⟩ := q2.of_ofO
  exact ⟨y, rfl, F2, d, e2, z, R2.fh, .inl (hv.mono s2), .inl hy, hz, fun w F' H' g0 hw => q3 w F' H' ((s1.trans s2).trans g0.ff) (R2.grow g0) hw⟩
theorem d_index (ha : PE X o (tE X.K XE fa)) (hb : PE X e (tE X.K XE fb)) (hbase : attributeBase o "index" X.env (eval o X.env) = eval o X.env := by rfl)
    (hfew : ((backTo cpos (starEach [e] X.env)).all (fun x => !x.1) && (backToKw cpos (keywordEach [] X.env)).all (fun x => x.1.isSome)
      && decide (([e]).length + ([] : List Keyword).length + (if ([] : List Keyword).isEmpty then 0 else 1) < 30)) = true := by rfl)
    (hline : (apos.endLine == cpos.line) = true := by rfl) (hs : starEach [e] X.env = (false, eval e X.env) :: starEach [] X.env := by rfl) (hplain : (backTo cpos (starEach [] X.env)).any (·.1) = false := by rfl) :
    PE X (.Call (.Attribute o "index" apos) [e] [] cpos) (tE X.K XE (eMth idxD fa fb)) := d_mth PySem.F.slot_list_index PySem.F.type_list_index mt_index ha hb hbase hfew hline hs hplain
theorem d_count (ha : PE X o (tE X.K XE fa)) (hb : PE X e (tE X.K XE fb)) (hbase : attributeBase o "count" X.env (eval o X.env) = eval o X.env := by rfl)
    (hfew : ((backTo cpos (starEach [e] X.env)).all (fun x => !x.1) && (backToKw cpos (keywordEach [] X.env)).all (fun x => x.1.isSome)
      && decide (([e]).length + ([] : List Keyword).length + (if ([] : List Keyword).isEmpty then 0 else 1) < 30)) = true := by rfl)
    (hline : (apos.endLine == cpos.line) = true := by rfl) (hs : starEach [e] X.env = (false, eval e X.env) :: starEach [] X.env := by rfl) (hplain : (backTo cpos (starEach [] X.env)).any (·.1) = false := by rfl) :
    PE X (.Call (.Attribute o "count" apos) [e] [] cpos) (tE X.K XE (eMth cntD fa fb)) := d_mth PySem.F.slot_list_count PySem.F.type_list_count mt_count ha hb hbase hfew hline hs hplain
end
end Sx

namespace Sx
open PySem PySem.Spec PyProof.Rows L2
/-! ### exceptions: raise, calls that may raise -/
def XEof (mg : Str → Option Value) (E : XK) : Str → Hp → Prop := fun c H => ∃ C, mg c = some (.ref C) ∧ E (.ref C) none H
/-- what XE wants of an exception is taken by the context -/
def TkX (X : Cx) (XE : Str → Hp → Prop) : Prop := ∃ W : WX, Takes X W ∧ ∀ c σ H, XE c H → ∃ C, X.mg c = some (.ref C) ∧ W (.ref C) none σ H
def spX (K : PySem.W.Frag) (mg : Str → Option Value) (n : Nat) (Fs : List Dt → Res Dt) : Sp := fun vs H Q E => ∃ F ds, Same F H ∧ TabsF (tabsOf K) F H ∧ DqAll K F vs ds ∧ ds.length = n ∧ match Fs ds with
  | .ok r => ∀ v F' H', Gr0 K F H F' H' → Dq K F' v r → Q v H'
  | .exc c => ∀ F' H', Gr0 K F H F' H' → XEof mg E c H'
  | .bad => False
def resX {α : Type} : Res α → Tw → Res (α × Tw)
  | .ok r, W => .ok (r, W)
  | .exc c, _ => .exc c
  | .bad, _ => .bad
def eCallX (n : Nat) (Fs : List Dt → Res Dt) (a : SA) : SE := fun ρ W => (a ρ W).bind fun p => if p.1.length = n then resX (Fs p.1) p.2 else .bad
def sRaise (c : Str) : SS := fun _ _ => .exc c
def CalX (P : Program) (w : World) (K : PySem.W.Frag) (mg : Str → Option Value) (base : Heap) (x : Str) (k n : Nat) (ps : List Str) (Fs : List Dt → Res Dt) : Prop :=
  ∃ f fd, FnOk P w K mg base (L2.CX P w) k f fd ps (spX K mg n Fs) ∧ mg x = some (.ref f) ∧ PySem.W.keepIn K (.ref f) = true ∧ Binds K fd ps []
/-- an own class of exceptions -/
structure OwnE (K : PySem.W.Frag) (mg : Str → Option Value) (c : Str) : Prop where
  ex : ∃ C, mg c = some (.ref C) ∧ PySem.W.excIn K C He.veBase "ValueError.__new__" = true ∧ PySem.W.keepIn K (.ref C) = true ∧ PySem.W.subIn K (.ref C) (.type "BaseException") = some true ∧ PySem.W.typeIn K (.ref C) = some (.type "type")
theorem Rel.gr0 {K : PySem.W.Frag} {G : Gh} {ρ : Sl} {W : Tw} {σ : L2.St} {F H : Hp} (R : Rel K G ρ W σ F H) : Gr G.K G.tm G.F0 G.H0 F H := by rw [R.kk]; exact R.gr
section
variable {X : Cx} {XE : Str → Hp → Prop} {e a : Expr} {es : List Expr} {pos p pt p2 cpos : Pos} {fa : SE} {ga : SA} {k n j : Nat} {f : Addr} {fd : FuncData} {ps : List Str} {x t c m : Str}
theorem s_raise (hc : X.calm = true) (tk : TkX X XE) (O : OwnE X.K X.mg c) (hg : Gl X c) (hdb : (c == ("__debug__" : Str)) = false := by decide) :
    PS X (.Raise (some (.Call (.Name c p) [.Constant (.str m) j p2] [] cpos)) none pos) (tS X.K XE (sRaise c)) := by
  obtain ⟨W, tw, hW⟩ := tk
  obtain ⟨C, gC, h1, h2, h3, h4⟩ := O.ex
  refine (ps_raise (W := W) hc tw (pmk_own (C := C) PySem.F.excBase_ValueError h1 gC h2 (raises_own h3 h4) hg hdb)).weak fun D σ H ⟨G, ρ, Wt, F, R, q⟩ => ?_
  obtain ⟨C', g', w'⟩ := hW c σ H (q F H R.gr0)
  rw [gC] at g'
  cases g'
  exact w'
theorem d_callE {Fs : List Dt → Res Dt} (F : FnOk X.prog X.w X.K X.mg X.base (L2.CX X.prog X.w) k f fd ps (spX X.K X.mg n Fs)) (hr : Room k X.A) (hg : Gl X x) (hm : X.mg x = some (.ref f)) (hk : PySem.W.keepIn X.K (.ref f) = true) (hb : Binds X.K fd ps []) (tk : TkX X XE) (ha : PA X (e :: es) (tA X.K XE ga))
    (hdb : (x == ("__debug__" : Str)) = false := by decide) (he : starEach (e :: es) X.env = (false, eval e X.env) :: starEach es X.env := by rfl) (hpl : (backTo pos (starEach es X.env)).any (·.1) = false := by rfl) :
    PE X (.Call (.Name x p) (e :: es) [] pos) (tE X.K XE (eCallX n Fs ga)) := by
  obtain ⟨W, tw, hW⟩ := tk
  refine (pe_callS (E := WE W) F hr hg hm hk hb (passAt tw) ha hdb he hpl).weak fun σ H Q ⟨G, ρ, Wt, Fz, R, q⟩ => ?_
  refine ⟨G, ρ, Wt, Fz, R, q.of_bind.mono fun ds W1 q vs F1 H1 s1 R1 hv => ?_⟩
  obtain ⟨hl, q⟩ := Pg.of_ite q
  refine ⟨F1, ds, R1.fh, R1.tb, hv, hl, ?_⟩
  cases hF : Fs ds with
  | ok r =>
    rw [hF] at q
    exact fun v F' H' g hw => q v F' H' (s1.trans g.ff) (R1.grow g) hw
  | exc c =>
    rw [hF] at q
    exact fun F' H' g => hW c σ H' (q F' H' (R1.grow g).gr0)
  | bad => rw [hF] at q; exact q.elim
end
section
variable {P : Program} {w : World} {K : PySem.W.Frag} {mg : Str → Option Value} {base : Heap} {x qual : Str} {st : Stmt} {f : Addr} {fd : FuncData} {N ps : List Str} {k n : Nat} {B : SS}
theorem tkOf {sc : Scope} {cdv : Value} {A : Around} {outer : List Env} {s : Shared} {H : Hp} {E : XK} : TkX (cxOf (L2.CX P w) P w K mg base N qual sc f cdv A outer s H E) (XEof mg E) :=
  ⟨fun cls d _ H => E cls d H, takes_of rfl rfl rfl rfl, fun c σ H h => h⟩
theorem fn_X (F : Fun K x qual st f fd) (S : FnScope N ps (defScope st)) (hn : ps.length = n)
    (hb : ∀ (cdv : Value) (A : Around) (outer : List Env) (s : Shared) (H : Hp) (E : XK), Room k (A.deeper (envOfC qual (defScope st) s.heap.objs.size f cdv)) → PSs (cxOf (L2.CX P w) P w K mg base N qual (defScope st) f cdv A outer s H E) (defBody st) (tS K (XEof mg E) B)) :
    FnOk P w K mg base (L2.CX P w) (k + 1) f fd ps (spX K mg n (runP N.length B)) := by
  refine F.okX S (fun vs H Q E h => ?_) fun cdv A outer s H vs Q E hr h => ⟨tS K (XEof mg E) B, hb cdv A outer s H E hr, ?_⟩
  · obtain ⟨Fz, ds, _, _, hd, hl, _⟩ := h
    rw [hd.length, hl, hn]
  · obtain ⟨Fz, ds, sm, tb, hd, hl, hm⟩ := h
    have e : L2.start N vs = vs.map some ++ List.replicate (N.length - ds.length) none := by unfold L2.start; rw [hd.length]
    rw [e]
    refine ⟨_, start0 N.length ds, none, Fz, Rel.start sm tb hd, ?_⟩
    unfold runP at hm
    cases hB : B (start0 N.length ds) none with
    | nx ρ W =>
      rw [hB] at hm
      exact fun G' σ' F' H' b s R => hm .non F' H' (by have g := R.gr; unfold Gh.tm at g; rw [b.T0, b.F0, b.H0] at g; exact g.mono fun _ z => nomatch z) .non
    | rt r W =>
      rw [hB] at hm
      cases r with
      | d x => exact fun G' ρ' σ' v F' H' b s R hv => hm v F' H' (by have g := R.gr; unfold Gh.tm at g; rw [b.T0, b.F0, b.H0] at g; exact g.mono fun _ z => nomatch z) hv
      | _ => exact hm.elim
    | exc c =>
      rw [hB] at hm
      exact fun F' H' g => hm F' H' (by unfold Gh.tm at g; exact g.mono fun _ z => nomatch z)
    | rs r ρ W => rw [hB] at hm; exact hm.elim
    | bad => rw [hB] at hm; exact hm.elim
end
end Sx

namespace Sx
open PySem PySem.Spec PyProof.Rows L2
/-! ### an exception that is kept behind its try -/
theorem kxO_ok {P : Program} {w : World} {H : Hp} {h : Heap} {a : Addr} {cls : Value} {oe : Obj} {vs : Array Value} (e : h.get? a = some oe) (z : Zc cls none oe) (d : oe.data = .fields vs) : ObjOk P w H h a (KxO cls a) :=
  ⟨⟨oe, vs, e, z, d⟩, ⟨oe, e⟩, fun _ _ ⟨o, v, q, r⟩ k => ⟨o, v, k o q, r⟩⟩
/-- an object that stands there is tracked from now on -/
theorem Inv_track {X : Cx} {pins : List (Addr × Obj)} {σ : L2.St} {H : Hp} {s : Shared} {a : Addr} {cls : Value} {oe : Obj} {vs : Array Value} (I : Inv X pins σ H s) (ha : s.heap.get? a = some oe) (hz : Zc cls none oe) (hd : oe.data = .fields vs) (na : H a = none)
    (n0 : X.s_0.heap.get? a = none) (nL : a ≠ X.env.locals) (np : ∀ p ∈ X.pn ++ pins, p.1 ≠ a) : Inv X pins σ (upd H a (KxO cls a)) s := by
  have ne0 : ∀ b o, X.s_0.heap.get? b = some o → b ≠ a := fun b o e z => by rw [z, n0] at e; cases e
  have neH : ∀ b (u : HO), H b = some u → b ≠ a := fun b u e z => by rw [z, na] at e; cases e
  refine ⟨I.ok, I.os, I.bare, ⟨I.base.keep, I.base.slot, fun b o e n hx => ?_, I.base.there, fun b xs e => ?_, fun b o u e => ?_, fun b ps e => ?_⟩, I.loc, I.cell, ?_, fun x c e => ?_, fun p hp => ?_, I.hok.laidN (fun _ _ q => q) na (kxO_ok ha hz hd), I.len⟩
  · rw [upd_ne (ne0 b o e)]; exact I.base.free b o e n hx
  · have q := I.base.tups b xs e
    rw [upd_ne (neH b _ q)]; exact q
  · have q := I.base.frzs b o u e
    rw [upd_ne (neH b _ q)]; exact q
  · obtain ⟨m, q⟩ := I.base.tbls b ps e
    exact ⟨m, by rw [upd_ne (neH b _ q)]; exact q⟩
  · rw [upd_ne (Ne.symm nL)]; exact I.free
  · obtain ⟨v, o, ho, hdc⟩ := I.cell x c e
    have : c ≠ a := fun z => by
      rw [z, ha] at ho
      cases ho
      rw [hd] at hdc
      cases hdc
    rw [upd_ne this]; exact I.freeC x c e
  · obtain ⟨h1, h2, h3⟩ := I.pin p hp
    exact ⟨h1, by rw [upd_ne (np p hp)]; exact h2, h3⟩
/-- what the clause wishes: behind it the exception is tracked -/
def wKp (K : PySem.W.Frag) (c : Value) (i : Nat) (ts : Addr → Value → TS) (Wout : WX) (D : Ends) : WX := fun cls d σ H =>
  ∃ b, PySem.W.exmOne K cls c = some b ∧ (b = true → d = none ∧ ∀ a, H a = none → ts a cls { nx := fun σ' H' => H' a = none → D.nx (σ'.set i none) (upd H' a (KxO cls a)), rt := fun _ _ => False, bk := fun _ _ => False, ct := fun _ _ => False } (σ.set i (some (.ref a))) H) ∧
    (b = false → Wout cls d σ H)
section
variable {X : Cx} {x n : Str} {c : Value} {i : Nat} {body suite : List Stmt} {b₀ : Stmt} {np pos pos' : Pos} {tb : WX → TS} {ts : Addr → Value → TS} {Wout : WX}
theorem ps_try_keep (hs : X.stack = X.env :: X.outer) (hf : X.env.frame = some X.env.locals) (hex : X.ex = []) (hN : X.N.Nodup) (hi : X.N[i]? = some n) (hln : X.env.kindOf n = some .local) (hc : Names X x c) (tk : Takes X Wout)
    (hb : ∀ (W : WX) (pn : List (Addr × Obj)) (xe : Value → Shared → Prop), Takes (X.tr pn xe) W → PassesOwn (model X.prog X.w) X.A X.env xe → PSs (X.tr pn xe) body (tb W))
    (hsu : ∀ (a : Addr) (oe : Obj) (cls : Value) (pn : List (Addr × Obj)), PSs (X.suite a ((a, oe) :: pn)) (b₀ :: suite) (ts a cls)) :
    PS X (.Try body [.ExceptHandler (some (.Name x np)) (some n) (b₀ :: suite) pos'] [] [] pos) (fun D σ H => tb (wKp X.K c i ts Wout D) D σ H) := by
  refine ⟨fun pins s σ H D I h => ?_⟩
  have ok := I.ok
  have hfr : X.A.frames = some (X.env :: X.outer) := by rw [ok.frames, hs]
  refine wpAny_Try_except ?_
  refine wpAny_mono ((hb (wKp X.K c i ts Wout D) (X.pn ++ pins) (fun e s₁ => wpAny (model X.prog X.w) X.A (noteFrame e X.env) (fun _ s₂ => wpAny (model X.prog X.w) X.A (setFlight e none) (fun _ s₃ =>
    wpAny (model X.prog X.w) X.A (handleBy e X.env [.ExceptHandler (some (.Name x np)) (some n) (b₀ :: suite) pos']) (SP X pins D) X.xe s₃) X.xe s₂) X.xe s₁) (fun u s' xx => ?_) PassesOwn.looking).run [] s σ H D (I.toTry _) h) (fun f s1 hsp => ?_) (fun e s1 he => he)
  · obtain ⟨a, B, sI, pins', σ', H', cls, d, rfl, J', nb, up, sky, na, os, ag, b, hb1, hyes, hno⟩ := xx
    have J : Inv X pins σ' H' sI := J'.ofTry ok
    have sky' : Sky B (X.env :: X.outer) a (Zc cls d) X.env.locals s'.heap := by rw [← hs]; exact sky
    show wpAny (model X.prog X.w) X.A (noteFrame (.ref a) X.env) _ _ _
    refine Sky.land Zc.steady hfr hf sky' fun h3 fl3 up3 => ?_
    have J3 : Inv X pins σ' H' { s' with heap := h3 } := J.landed nb fl3.1 (up.trans up3) os ag
    obtain ⟨oe3, vs3, he3, hz3, hd3⟩ := fl3.there
    have aB : B.get? a = none := fl3.2.1
    have nfr : a ∉ frs (X.env :: X.outer) := fun hm => by
      obtain ⟨_, o', e', hnf⟩ := fl3.2.2.1.mem hm
      rw [he3] at e'; cases e'
      exact hnf _ hd3
    have nfr' : a ∉ frs X.stack := by rw [hs]; exact nfr
    have nL : a ≠ X.env.locals := fun z => nfr (List.mem_filterMap.mpr ⟨X.env, List.mem_cons_self, by rw [hf, z]⟩)
    have nF : a ∉ X.fs := fun hm => by
      obtain ⟨e, he, q⟩ := List.mem_filterMap.mp hm
      exact nfr (List.mem_filterMap.mpr ⟨e, List.mem_cons_of_mem _ he, q⟩)
    have nsI : sI.heap.get? a = none := by
      cases q : sI.heap.get? a with
      | none => rfl
      | some o =>
        have z := nb a o q nfr'
        rw [aB] at z; cases z
    have n0 : X.s_0.heap.get? a = none := by
      cases q : X.s_0.heap.get? a with
      | none => rfl
      | some o =>
        obtain ⟨o', z⟩ := J.base.there a o q (by rw [hex]; exact fun z => nomatch z)
        rw [nsI] at z; cases z
    have npn : ∀ p ∈ X.pn ++ pins, p.1 ≠ a := fun p hp z => by
      have := (J.pin p hp).1
      rw [z, nsI] at this; cases this
    have S3 := J3.suite he3 hd3 na nL nF
    refine wpAny_handleBy_cons (codeAny_handlers_test ?_) (by intro q; cases q)
    have LT : PySem.W.Looks (model X.prog X.w) h3 (typeOf (.ref a)) cls := fun A Q E s k q => wpAny_typeOf_ref (k _ _ he3) (by rw [hz3.1]; exact q)
    have LM := PySem.W.exm_one (M := model X.prog X.w) (J3.kIn) LT hb1
    have test : ∀ {Q : Value → Shared → Prop} {E : Value → Shared → Prop}, Q c { s' with heap := h3 } → wpAny (model X.prog X.w) (X.A.mark (some (.ref a))) (eval (.Name x np) X.env) Q E { s' with heap := h3 } := fun {Q E} q => by
      obtain ⟨hg, hdbg, hm | ⟨hm, hv, hnn⟩⟩ := hc
      · exact ld_glob (X := X.suite a ((a, oe3) :: (X.pn ++ pins))) S3 hg hm q hdbg
      · exact ld_blt (X := X.suite a ((a, oe3) :: (X.pn ++ pins))) S3 hg hm hv q hnn hdbg
    refine test (LM.here ?_)
    cases b with
    | true =>
      obtain ⟨hdn, hy⟩ := hyes rfl
      subst hdn
      refine codeAny_handlers_suite_as ?_
      refine HandSPX.lands_againZ fl3 fun h4 fl4 up4 => ?_
      have J4 : Inv X pins σ' H' { s' with heap := h4 } := J.landed nb fl4.1 ((up.trans up3).trans up4) os ag
      obtain ⟨oe4, vs4, he4, hz4, hd4⟩ := fl4.there
      have S4 := J4.suite he4 hd4 na nL nF
      refine store_ok (X := X.suite a ((a, oe4) :: (X.pn ++ pins))) (v := .ref a) S4 hN hi (.inl hln) rfl (fun s5 S5 => ?_) (.inr hln)
      refine wpAny_mono ((hsu a oe4 cls (X.pn ++ pins)).run [] s5 _ H' _ S5 (hy a na)) (fun f s6 hsp => ?_) (fun _ _ z => False.elim z)
      cases f with
      | next =>
        obtain ⟨σ6, H6, S6, q6⟩ := hsp
        refine gone_ok (X := X.suite a ((a, oe4) :: (X.pn ++ pins))) S6 hN hi hln fun s7 S7 => ?_
        obtain ⟨p1, p2, _⟩ := S7.pin (a, oe4) (List.mem_append.mpr (.inl List.mem_cons_self))
        exact ⟨_, _, Inv_track (S7.unsuite ok) p1 hz4 hd4 p2 n0 nL npn, q6 p2⟩
      | brk =>
        obtain ⟨σ6, H6, S6, q6⟩ := hsp
        exact q6.elim
      | cont =>
        obtain ⟨σ6, H6, S6, q6⟩ := hsp
        exact q6.elim
      | ret u =>
        obtain ⟨v6, σ6, H6, S6, r6, q6⟩ := hsp
        exact q6.elim
    | false =>
      show wpAny _ X.A (handleBy (.ref a) X.env []) _ _ _
      refine wpAny_handleBy_nil ?_
      obtain ⟨k1, k2, k3, oe, vs, T, oT, ts', he, hz, hd, h1, hr⟩ := id fl3
      unfold PySem.passOn
      refine wpAny_bind (wpAny_field he hd h1 ?_)
      rw [if_neg (show ¬ ((Value.ref T == Value.none) = true) from by simp)]
      have fin : wpAny (model X.prog X.w) X.A (setFlight (.ref a) X.env.frame) (fun _ s4 => wpAny (model X.prog X.w) X.A (throw (.ref a) : Sem Flow) (SP X pins D) X.xe s4) X.xe { s' with heap := h3 } := by
        rw [hf]
        refine HandSPX.setFlight_upZ fl3 fun h4 hh4 up4 => wpAny_throw (tk _ _ ?_)
        exact ⟨a, B, sI, pins, σ', H', cls, d, rfl, J, nb, (up.trans up3).trans up4, .inr (.inr (by rw [hs]; exact hh4)), na, os, ag, hno rfl⟩
      first
        | exact wpAny_bind (wpAny_pure (wpAny_bind fin))
        | exact wpAny_bind fin
  · cases f with
    | next =>
      obtain ⟨σ', H', J', q⟩ := hsp
      exact wpAny_execs_nil ⟨σ', H', J'.ofTry ok, q⟩
    | brk =>
      obtain ⟨σ', H', J', q⟩ := hsp
      exact ⟨σ', H', J'.ofTry ok, q⟩
    | cont =>
      obtain ⟨σ', H', J', q⟩ := hsp
      exact ⟨σ', H', J'.ofTry ok, q⟩
    | ret u =>
      obtain ⟨v, σ', H', J', r, q⟩ := hsp
      exact ⟨v, σ', H', J'.ofTry ok, r, q⟩
end
end Sx

namespace Sx
open PySem PySem.Spec PyProof.Rows L2
/-! ### the outcome of a call: a result or the class of an exception -/
structure ExF (K : PySem.W.Frag) (mg : Str → Option Value) : Prop where
  glo : ∀ c ∈ excN, mg c = some (.ref (He.ga K c))
  top : mg "LadderError" = some (.ref (He.ga K "LadderError"))
  exm : ∀ c ∈ excN, PySem.W.exmOne K (.ref (He.ga K c)) (.ref (He.ga K "LadderError")) = some true
  own : ∀ c ∈ excN, ExcC K (He.ga K c)
  isa : ∀ c ∈ excN, ∀ d ∈ excN, PySem.W.kitOne K (.ref (He.ga K c)) (.ref (He.ga K d)) = some (decide (c = d))
  isv : ∀ c ∈ excN, PySem.W.kitOne K (.ref (He.ga K c)) (.type "ValueError") = some true
  oe : ∀ c ∈ excN, OwnE K mg c
theorem Rel.setEx {K : PySem.W.Frag} {G : Gh} {ρ : Sl} {W : Tw} {σ : L2.St} {F H : Hp} {i : Nat} {a : Addr} {c : Str} (R : Rel K G ρ W σ F H) (hi : i < ρ.length) (hv : F a = some (KxO (.ref (He.ga K c)) a)) : Rel K G (ρ.set i (some (.ex c))) W (σ.set i (some (.ref a))) F H := by
  refine ⟨R.gr, by rw [List.length_set, List.length_set]; exact R.len, R.t0, R.t1, R.tw, fun j sv e => ?_, R.dj, R.fr, R.ex, R.xt, R.tb, R.kk⟩
  by_cases hj : i = j
  · subst hj
    rw [List.getElem?_set_self hi] at e
    cases e
    exact ⟨.ref a, List.getElem?_set_self (by rw [← R.len]; exact hi), a, rfl, hv⟩
  · rw [List.getElem?_set_ne hj] at e ⊢
    exact R.sl j sv e
/-- try: r = f(..) / except LadderError as e: c = e -/
def sTryC (jr jc ie n : Nat) (Fs : List Dt → Res Dt) (ga : SA) : SS := fun ρ W => match ga ρ W with
  | .ok p => if p.1.length = n ∧ jr < ρ.length ∧ jc < ρ.length ∧ ie < ρ.length ∧ jc ≠ ie then match Fs p.1 with
    | .ok r => .nx (ρ.set jr (some (.d r))) p.2
    | .exc c => if c ∈ excN then .nx ((ρ.set jc (some (.ex c))).set ie none) p.2 else .bad
    | .bad => .bad
    else .bad
  | _ => .bad
section
variable {X : Cx} {XE : Str → Hp → Prop} {e : Expr} {es : List Expr} {p pos pos1 pos2 pos3 pos' np q1 q2 q3 : Pos} {ga : SA} {k n jr jc ie : Nat} {f : Addr} {fd : FuncData} {ps : List Str} {x nr nc ne : Str}
theorem s_tryC {Fs : List Dt → Res Dt} (EF : ExF X.K X.mg) (hs : X.stack = X.env :: X.outer) (hf : X.env.frame = some X.env.locals) (hex : X.ex = []) (hN : X.N.Nodup) (hir : X.N[jr]? = some nr) (hic : X.N[jc]? = some nc) (hie : X.N[ie]? = some ne)
    (hlr : Loc X.env.scope nr) (hlc : Loc X.env.scope nc) (hln : X.env.kindOf ne = some .local) (hgL : Gl X "LadderError")
    (F : FnOk X.prog X.w X.K X.mg X.base (L2.CX X.prog X.w) k f fd ps (spX X.K X.mg n Fs)) (hr : Room k X.A) (hg : Gl X x) (hm : X.mg x = some (.ref f)) (hk : PySem.W.keepIn X.K (.ref f) = true) (hb : Binds X.K fd ps [])
    (ha : ∀ (pn : List (Addr × Obj)) (xe : Value → Shared → Prop), PA (X.tr pn xe) (e :: es) (tA X.K X0 ga))
    (hve : ∀ (a : Addr) (oe : Obj) (pn : List (Addr × Obj)), PE (X.suite a ((a, oe) :: pn)) (.Name ne q2) (tVar ie))
    (hsw : swapsWith (.Call (.Name x p) (e :: es) [] pos1) (some (.Name nr q1)) pos2.line X.env = pure false := by rfl) (hsw2 : swapsWith (.Name ne q2) (some (.Name nc q3)) pos3.line X.env = pure false := by rfl)
    (hfr : X.fn nr = true ∨ X.env.scope.names.lookup nr = some .local := by first | exact .inl rfl | exact .inr rfl | assumption) (hfc : X.fn nc = true ∨ X.env.scope.names.lookup nc = some .local := by first | exact .inl rfl | exact .inr rfl | assumption)
    (hdb : (x == ("__debug__" : Str)) = false := by decide) (he : starEach (e :: es) X.env = (false, eval e X.env) :: starEach es X.env := by rfl) (hpl : (backTo pos1 (starEach es X.env)).any (·.1) = false := by rfl) :
    PS X (.Try [.Assign [.Name nr q1] (.Call (.Name x p) (e :: es) [] pos1) pos2] [.ExceptHandler (some (.Name "LadderError" np)) (some ne) [.Assign [.Name nc q3] (.Name ne q2) pos3] pos'] [] [] pos) (tS X.K XE (sTryC jr jc ie n Fs ga)) := by
  have key := ps_try_keep (X := X) (x := "LadderError") (n := ne) (c := .ref (He.ga X.K "LadderError")) (i := ie) (np := np) (pos := pos) (pos' := pos') (Wout := fun _ _ _ _ => False) (body := [.Assign [.Name nr q1] (.Call (.Name x p) (e :: es) [] pos1) pos2]) (b₀ := .Assign [.Name nc q3] (.Name ne q2) pos3) (suite := [])
    (tb := fun W => tAsg (tCallS (spX X.K X.mg n Fs) (WE W) (tA X.K X0 ga)) (gName jr)) (ts := fun a cls => tAsg (tVar ie) (gName jc))
    hs hf hex hN hie hln ⟨hgL, by decide, .inl EF.top⟩ (fun u s' ⟨a, B, sI, pins, σ, H, cls, d, e, I, nb, up, sky, na, os, ag, w⟩ => w.elim)
    (fun W pn xe tw po => pss_one (ps_set (X := X.tr pn xe) hN hir hlr (pe_callS (X := X.tr pn xe) (E := WE W) F hr hg hm hk hb (passAt tw) (ha pn xe) hdb he hpl) hsw hfr))
    (fun a oe cls pn => pss_one (ps_set (X := X.suite a ((a, oe) :: pn)) hN hic hlc (hve a oe pn) hsw2 hfc))
  refine key.weak fun D σ H ⟨G, ρ, W, Fz, R, q⟩ => ?_
  unfold sTryC at q
  cases hga : ga ρ W with
  | exc c => rw [hga] at q; exact q.elim
  | bad => rw [hga] at q; exact q.elim
  | ok pp =>
    rw [hga] at q
    obtain ⟨⟨hl, h1, h2, h3, h4⟩, q⟩ := Po.of_ite q
    refine ⟨G, ρ, W, Fz, R, ?_⟩
    show Pg X0 G (ga ρ W) _
    rw [hga]
    intro vs F1 H1 s1 R1 hv
    refine ⟨F1, pp.1, R1.fh, R1.tb, hv, hl, ?_⟩
    cases hF : Fs pp.1 with
    | bad => rw [hF] at q; exact q.elim
    | ok r =>
      rw [hF] at q
      intro v F2 H2 g hw
      exact q G _ F2 H2 (.refl _) (s1.trans g.ff) ((R1.grow g).setD h1 hw)
    | exc c =>
      rw [hF] at q
      obtain ⟨hmem, q⟩ := Po.of_ite q
      intro F2 H2 g
      refine ⟨He.ga X.K c, EF.glo c hmem, true, EF.exm c hmem, fun _ => ⟨rfl, fun a na => ?_⟩, fun z => nomatch z⟩
      refine ⟨.ref a, List.getElem?_set_self (by rw [← R1.len]; exact h3), fun na' => ?_⟩
      have R2 := R1.grow g
      have g2 : Gr0 X.K F2 H2 (upd F2 a (KxO (.ref (He.ga X.K c)) a)) (upd H2 a (KxO (.ref (He.ga X.K c)) a)) := .new R2.fh na
      have R3 := (R2.grow g2).setEx (i := jc) (a := a) (c := c) h2 upd_same
      refine q G _ _ _ (.refl _) ((s1.trans g.ff).trans g2.ff) (R3.restrict (by simp [R1.len]) fun i sv hi => ?_)
      by_cases hie' : ie = i
      · subst hie'
        rw [List.getElem?_set_self (by simpa using h3)] at hi
        cases hi
      · rw [List.getElem?_set_ne hie'] at hi
        refine ⟨hi, ?_⟩
        rw [List.getElem?_set_ne hie']
        by_cases hj : jc = i
        · subst hj
          rw [List.getElem?_set_self (by rw [← R1.len]; exact h2), List.getElem?_set_self (by rw [List.length_set, ← R1.len]; exact h2)]
        · rw [List.getElem?_set_ne hj, List.getElem?_set_ne hj, List.getElem?_set_ne hie']
/-! is it None -/
def eIsN (i : Nat) : SE := fun ρ W => match ρ[i]? with
  | some (some (.d x)) => .ok (.bool (isNone x), W)
  | some (some (.ex _)) => .ok (.bool false, W)
  | _ => .bad
theorem isN_of {i : Nat} {σ : L2.St} {H : Hp} {Q : VK} (h : tE X.K XE (eIsN i) σ H Q) : tOp (fun x y H Q => y = .non ∧ Q (.bl (decide (x = .non))) H) (tVar i) (tC .non) σ H Q := by
  obtain ⟨G, ρ, W, F, R, q⟩ := h
  unfold eIsN at q
  split at q
  · rename_i d hs
    obtain ⟨v, h1, h2⟩ := R.sl i _ hs
    refine ⟨v, h1, rfl, q _ F H (.refl _) R ?_⟩
    have : decide (v = .non) = isNone d := by
      have h2 : Dq X.K F v d := h2
      cases h2 <;> rfl
    rw [this]
    exact .bl _
  · rename_i c hs
    obtain ⟨v, h1, a, rfl, h2⟩ := R.sl i _ hs
    exact ⟨_, h1, rfl, q _ F H (.refl _) R (.bl false)⟩
  · exact q.elim
theorem c_isN {i j : Nat} (hx : PE X (.Name x q1) (tVar i)) (hm : behindInMarks .Is (.Constant .none j q2) = false) : PT X (.Compare (.Name x q1) [.Is] [.Constant .none j q2] pos) (tT X.K XE (bOf (eIsN i))) :=
  (pt_cmpR op_isN hx pe_non hm).weak fun _ _ _ h => isN_of (test_of h)
/-! isinstance of a kept exception -/
def eIsX (i : Nat) (d : Str) : SE := fun ρ W => match ρ[i]? with
  | some (some (.ex c)) => if c ∈ excN ∧ (d = "ValueError" ∨ d ∈ excN) then .ok (.bool (decide (d = "ValueError") || decide (c = d)), W) else .bad
  | _ => .bad
def rIsX (K : PySem.W.Frag) : List V → Hp → VK → Prop := fun xs H Q => ∃ (a D : Addr) (c : V) (cv : Value) (b : Bool), xs = [.ref a, c] ∧ H a = some (KxO (.ref D) a) ∧ ExcC K D ∧ (∀ u, RelV c u → u = cv) ∧ PySem.W.kitOne K (.ref D) cv = some b ∧ Q (.bl b) H
theorem call_isX : CallR X (.builtin "isinstance") (rIsX X.K) := by
  intro pins s σ H xs us Q I r h
  obtain ⟨a, D, c, cv, b, rfl, hH, C, hcv, e, q⟩ := h
  cases r with
  | cons rx rr =>
    cases rr with
    | cons rt rr =>
      cases rr
      cases rx
      have ec := hcv _ rt
      subst ec
      obtain ⟨⟨oe, vs, hget, hz, hv⟩, _⟩ := I.hok a _ hH
      have J : PySem.W.InstAt s.heap a oe D none := by
        obtain ⟨oc, od, oda, osl⟩ := oe
        obtain ⟨h1, h2⟩ := hz
        dsimp only at h1 h2 hv
        subst h1 h2 hv
        exact ⟨hget, rfl, rfl, trivial⟩
      exact PySem.W.kia_one (PySem.W.handS_kitx_exc C.hg C.hk C.hs C.hd C.ha C.hn C.ht C.hm) I.kIn J e (fun z => nomatch z) fun tk => ⟨.bl b, H, I.kept (t' := tk) fun _ _ z => z, rfl, q⟩
theorem d_isX {i : Nat} {d : Str} {pt : Pos} (EF : ExF X.K X.mg) (hd : d ∈ excN) (hg : Gl X "isinstance") (hm : X.mg "isinstance" = none) (hgt : Gl X d) (hx : PE X (.Name x q1) (tVar i)) (hdt : (d == ("__debug__" : Str)) = false := by decide)
    (he : starEach [.Name x q1, .Name d pt] X.env = (false, eval (.Name x q1) X.env) :: starEach [.Name d pt] X.env := by rfl) (he2 : starEach [.Name d pt] X.env = (false, eval (.Name d pt) X.env) :: starEach [] X.env := by rfl) (hpl : (backTo pos (starEach [.Name d pt] X.env)).any (·.1) = false := by rfl) :
    PE X (.Call (.Name "isinstance" p) [.Name x q1, .Name d pt] [] pos) (tE X.K XE (eIsX i d)) := by
  refine (pe_callB call_isX hg hm (by decide +kernel) (pa_cons hx (pa_cons (pe_glob (v := .ref (He.ga X.K d)) hgt (EF.glo d hd) rfl hdt) pa_nil he2) he) (by decide) (by decide) he hpl).weak fun σ H Q ⟨G, ρ, W, F, R, q⟩ => ?_
  unfold eIsX at q
  split at q
  · rename_i c hs
    obtain ⟨hc, q⟩ := Pg.of_ite q
    obtain ⟨v, h1, a, rfl, h2⟩ := R.sl i _ hs
    have hne : decide (d = "ValueError") = false := by
      refine decide_eq_false fun z => ?_
      rw [z] at hd
      exact absurd hd (by decide +kernel)
    refine ⟨_, h1, a, He.ga X.K c, .ref (He.ga X.K d), .ref (He.ga X.K d), decide (c = d), rfl, R.fh _ _ h2, EF.own c hc.1, fun u z => (show u = _ from z), EF.isa c hc.1 d hd, ?_⟩
    refine q _ F H (.refl _) R ?_
    show Dq X.K F (.bl (decide (c = d))) (.bool (decide (d = "ValueError") || decide (c = d)))
    rw [hne]
    exact .bl _
  · exact q.elim
theorem d_isXV {i : Nat} {pt : Pos} (EF : ExF X.K X.mg) (hg : Gl X "isinstance") (hm : X.mg "isinstance" = none) (hgt : Gl X "ValueError") (hmt : X.mg "ValueError" = none) (hx : PE X (.Name x q1) (tVar i))
    (he : starEach [.Name x q1, .Name "ValueError" pt] X.env = (false, eval (.Name x q1) X.env) :: starEach [.Name "ValueError" pt] X.env := by rfl) (he2 : starEach [.Name "ValueError" pt] X.env = (false, eval (.Name "ValueError" pt) X.env) :: starEach [] X.env := by rfl) (hpl : (backTo pos (starEach [.Name "ValueError" pt] X.env)).any (·.1) = false := by rfl) :
    PE X (.Call (.Name "isinstance" p) [.Name x q1, .Name "ValueError" pt] [] pos) (tE X.K XE (eIsX i "ValueError")) := by
  refine (pe_callB call_isX hg hm (by decide +kernel) (pa_cons hx (pa_cons (pe_bltn (v := .ty "ValueError") hgt hmt (by decide +kernel) rfl (by decide) (by decide)) pa_nil he2) he) (by decide) (by decide) he hpl).weak fun σ H Q ⟨G, ρ, W, F, R, q⟩ => ?_
  unfold eIsX at q
  split at q
  · rename_i c hs
    obtain ⟨hc, q⟩ := Pg.of_ite q
    obtain ⟨v, h1, a, rfl, h2⟩ := R.sl i _ hs
    refine ⟨_, h1, a, He.ga X.K c, .ty "ValueError", .type "ValueError", true, rfl, R.fh _ _ h2, EF.own c hc.1, fun u z => (show u = _ from z), EF.isv c hc.1, ?_⟩
    exact q _ F H (.refl _) R (.bl true)
  · exact q.elim
end
/-! a def whose only argument is an exception -/
def spN (K : PySem.W.Frag) (Fs : Str → Res Dt) : Sp := fun vs H Q _ => ∃ F a c, vs = [.ref a] ∧ Same F H ∧ TabsF (tabsOf K) F H ∧ F a = some (KxO (.ref (He.ga K c)) a) ∧ match Fs c with
  | .ok r => ∀ v F' H', Gr0 K F H F' H' → Dq K F' v r → Q v H'
  | _ => False
def CalN (P : Program) (w : World) (K : PySem.W.Frag) (mg : Str → Option Value) (base : Heap) (x : Str) (k : Nat) (ps : List Str) (Fs : Str → Res Dt) : Prop :=
  ∃ f fd, FnOk P w K mg base CX0 k f fd ps (spN K Fs) ∧ mg x = some (.ref f) ∧ PySem.W.keepIn K (.ref f) = true ∧ Binds K fd ps []
def runN (m : Nat) (B : SS) (c : Str) : Res Dt := match B (some (.ex c) :: List.replicate (m - 1) none) none with
  | .rt (.d x) _ => .ok x
  | _ => .bad
def eCallN (Fs : Str → Res Dt) (i : Nat) : SE := fun ρ W => match ρ[i]? with
  | some (some (.ex c)) => resT (Fs c) W
  | _ => .bad
section
variable {X : Cx} {XE : Str → Hp → Prop} {p pos q1 : Pos} {k i : Nat} {f : Addr} {fd : FuncData} {ps : List Str} {x y : Str}
theorem d_callN {Fs : Str → Res Dt} (F : FnOk X.prog X.w X.K X.mg X.base CX0 k f fd ps (spN X.K Fs)) (hr : Room k X.A) (hg : Gl X x) (hm : X.mg x = some (.ref f)) (hk : PySem.W.keepIn X.K (.ref f) = true) (hb : Binds X.K fd ps []) (hx : PE X (.Name y q1) (tVar i))
    (hdb : (x == ("__debug__" : Str)) = false := by decide) (he : starEach [.Name y q1] X.env = (false, eval (.Name y q1) X.env) :: starEach [] X.env := by rfl) (hpl : (backTo pos (starEach [] X.env)).any (·.1) = false := by rfl) :
    PE X (.Call (.Name x p) [.Name y q1] [] pos) (tE X.K XE (eCallN Fs i)) := by
  refine (pe_call F hr hg hm hk hb .nil pass0 (pa_cons hx pa_nil he) hdb he hpl).weak fun σ H Q ⟨G, ρ, W, Fz, R, q⟩ => ?_
  unfold eCallN at q
  split at q
  · rename_i c hs
    obtain ⟨v, h1, a, rfl, h2⟩ := R.sl i _ hs
    obtain ⟨r, hr, q⟩ := Pg.of_resT q
    refine ⟨_, h1, Fz, a, c, rfl, R.fh, R.tb, h2, ?_⟩
    rw [hr]
    exact fun v F' H' g hw => q v F' H' g.ff (R.grow g) hw
  · exact q.elim
end
section
variable {P : Program} {w : World} {K : PySem.W.Frag} {mg : Str → Option Value} {base : Heap} {x qual : Str} {st : Stmt} {f : Addr} {fd : FuncData} {N ps : List Str} {k n : Nat} {B : SS}
theorem Rel.startN {F H : Hp} {a : Addr} {c : Str} {m : Nat} (sm : Same F H) (tb : TabsF (tabsOf K) F H) (h : F a = some (KxO (.ref (He.ga K c)) a)) : Rel K ⟨K, none, F, H, [], none, fun _ => []⟩ (some (.ex c) :: List.replicate m none) none (some (.ref a) :: List.replicate m none) F H :=
  ⟨.refl sm, by simp, fun t e => (by cases e), fun t e => (by cases e), trivial, fun i sv e => (by
    cases i with
    | zero => cases e; exact ⟨.ref a, rfl, a, rfl, h⟩
    | succ i =>
      rw [List.getElem?_cons_succ, List.getElem?_replicate] at e
      split at e <;> cases e), fun i j a ha => (by cases ha), fun i a ha => (by cases ha), fun e he => (by cases he), fun e he => (by cases he), tb, rfl⟩
theorem fn_N (F : Fun K x qual st f fd) (S : FnScope N ps (defScope st)) (hn : ps.length = 1)
    (hb : ∀ (cdv : Value) (A : Around) (outer : List Env) (s : Shared) (H : Hp) (E : XK), Room k (A.deeper (envOfC qual (defScope st) s.heap.objs.size f cdv)) → PSs (cxOf CX0 P w K mg base N qual (defScope st) f cdv A outer s H E).nox (defBody st) (tS K X0 B)) :
    FnOk P w K mg base CX0 (k + 1) f fd ps (spN K (runN N.length B)) := by
  refine F.ok S (fun vs H Q E h => ?_) fun cdv A outer s H vs Q E hr h => ⟨tS K X0 B, hb cdv A outer s H E hr, ?_⟩
  · obtain ⟨Fz, a, c, rfl, _⟩ := h
    rw [hn]; rfl
  · obtain ⟨Fz, a, c, rfl, sm, tb, ha, hm⟩ := h
    have e : L2.start N [.ref a] = some (.ref a) :: List.replicate (N.length - 1) none := by unfold L2.start; rfl
    rw [e]
    refine ⟨_, some (.ex c) :: List.replicate (N.length - 1) none, none, Fz, Rel.startN sm tb ha, ?_⟩
    unfold runN at hm
    cases hB : B (some (.ex c) :: List.replicate (N.length - 1) none) none with
    | nx ρ W => rw [hB] at hm; exact hm.elim
    | rt r W =>
      rw [hB] at hm
      cases r with
      | d x => exact fun G' ρ' σ' v F' H' b s R hv => hm v F' H' (by have g := R.gr; unfold Gh.tm at g; rw [b.T0, b.F0, b.H0] at g; exact g.mono fun _ z => nomatch z) hv
      | _ => exact hm.elim
    | exc c => rw [hB] at hm; exact hm.elim
    | rs r ρ W => rw [hB] at hm; exact hm.elim
    | bad => rw [hB] at hm; exact hm.elim
end
end Sx

namespace Sx
open PySem PySem.Spec PyProof.Rows L2
/-! ### the head's own fact: the classes of exceptions -/
theorem exC1_ok {K : PySem.W.Frag} {c : Str} (h : exC1 K c = true) : ExcC K (He.ga K c) := by
  unfold exC1 at h
  simp only [Bool.and_eq_true, decide_eq_true_eq] at h
  obtain ⟨h1, h2, h3, h4, h5, h6, h7, h8⟩ := h
  exact ⟨He.eqO_ok h1, He.eqO_ok h2, h3, h4, He.eqO_ok h5, He.eqO_ok h6, h7, h8⟩
theorem exE_ok {K : PySem.W.Frag} {mg : Str → Option Value} (h : exE K = true) (g : ∀ c ∈ excN, mg c = some (.ref (He.ga K c))) (t : mg "LadderError" = some (.ref (He.ga K "LadderError"))) : ExF K mg := by
  unfold exE at h
  rw [List.all_eq_true] at h
  have h' : ∀ c ∈ excN, exC1 K c = true ∧ exC2 K c = true ∧ (He.Fa.exc c).ok K = true := fun c hc => by
    have := h c hc
    simp only [Bool.and_eq_true] at this
    exact this
  have h2 : ∀ c ∈ excN, PySem.W.kitOne K (.ref (He.ga K c)) (.type "ValueError") = some true ∧ PySem.W.exmOne K (.ref (He.ga K c)) (.ref (He.ga K "LadderError")) = some true ∧ ∀ d ∈ excN, PySem.W.kitOne K (.ref (He.ga K c)) (.ref (He.ga K d)) = some (decide (c = d)) := fun c hc => by
    have := (h' c hc).2.1
    unfold exC2 at this
    simp only [Bool.and_eq_true, decide_eq_true_eq, List.all_eq_true] at this
    exact this
  exact ⟨g, t, fun c hc => (h2 c hc).2.1, fun c hc => exC1_ok (h' c hc).1, fun c hc d hd => (h2 c hc).2.2 d hd, fun c hc => (h2 c hc).1, fun c hc => ⟨_, g c hc, He.exc_ok (h' c hc).2.2⟩⟩
theorem exZE_z {K : PySem.W.Frag} (h : exZE K = true) : exZ K = true := (Bool.and_eq_true_iff.mp h).1
theorem exZE_e {K : PySem.W.Frag} (h : exZE K = true) : exE K = true := (Bool.and_eq_true_iff.mp h).2
end Sx

namespace Sx
open PySem PySem.Spec PyProof.Rows L2
/-! ### a def with its exceptions does what the def without them does -/
def LeR {α : Type} (a b : Res α) : Prop := a = .bad ∨ a = b
def LeO (a b : Out) : Prop := a = .bad ∨ a = b
def LeF {α β : Type} (f g : α → Res β) : Prop := ∀ x, LeR (f x) (g x)
def Le2 {α β γ : Type} (f g : α → β → Res γ) : Prop := ∀ x y, LeR (f x y) (g x y)
def LeS (f g : SS) : Prop := ∀ ρ W, LeO (f ρ W) (g ρ W)
theorem LeR.refl {α : Type} (a : Res α) : LeR a a := .inr rfl
theorem Le2.refl {α β γ : Type} (f : α → β → Res γ) : Le2 f f := fun _ _ => .inr rfl
theorem LeS.refl (f : SS) : LeS f f := fun _ _ => .inr rfl
theorem LeR.ok {α : Type} {a b : Res α} {r : α} (h : LeR a b) (e : a = .ok r) : b = .ok r := by
  rcases h with h | h
  · rw [h] at e; cases e
  · rw [← h]; exact e
theorem LeF.ok {α β : Type} {f g : α → Res β} {x : α} {r : β} (h : LeF f g) (e : f x = .ok r) : g x = .ok r := (h x).ok e
theorem LeR.bind {α β : Type} {a b : Res α} {f g : α → Res β} (h : LeR a b) (k : ∀ x, LeR (f x) (g x)) : LeR (a.bind f) (b.bind g) := by
  rcases h with rfl | rfl
  · exact .inl rfl
  · cases a with
    | ok x => exact k x
    | exc c => exact .inr rfl
    | bad => exact .inl rfl
theorem LeO.rOut {α : Type} {a b : Res (α × Tw)} {f g : α → Tw → Out} (h : LeR a b) (k : ∀ x W, LeO (f x W) (g x W)) : LeO (rOut a f) (rOut b g) := by
  rcases h with rfl | rfl
  · exact .inl rfl
  · cases a with
    | ok p => exact k p.1 p.2
    | exc c => exact .inr rfl
    | bad => exact .inl rfl
theorem le_never {s : SS} : LeS sNever s := fun _ _ => .inl rfl
theorem le_seq {a a' b b' : SS} (h : LeS a a') (k : LeS b b') : LeS (sSeq a b) (sSeq a' b') := fun ρ W => by
  unfold sSeq
  rcases h ρ W with e | e
  · rw [e]; exact .inl rfl
  · rw [← e]
    cases a ρ W with
    | nx ρ1 W1 => exact k ρ1 W1
    | _ => exact .inr rfl
theorem le_if {c c' : SB} {a a' b b' : SS} (hc : Le2 c c') (h : LeS a a') (k : LeS b b') : LeS (sIf c a b) (sIf c' a' b') := fun ρ W => LeO.rOut (hc ρ W) fun x W1 => by
  cases x
  · exact k ρ W1
  · exact h ρ W1
theorem le_fL {g : SG} {b b' : SS} (h : LeS b b') : ∀ (ds : List Dt) (ρ : Sl) (W : Tw), LeO (fL g b ds ρ W) (fL g b' ds ρ W)
  | [], ρ, W => .inr rfl
  | d :: ds, ρ, W => by
    unfold fL
    cases g d ρ with
    | none => exact .inl rfl
    | some ρ1 =>
      rcases h ρ1 W with e | e
      · simp only [e]; exact .inl rfl
      · simp only [← e]
        cases b ρ1 W with
        | nx ρ2 W2 => exact le_fL h ds ρ2 W2
        | _ => exact .inr rfl
theorem le_for {it it' : SA} {g : SG} {b b' : SS} (hi : Le2 it it') (h : LeS b b') : LeS (sFor it g b) (sFor it' g b') := fun ρ W => LeO.rOut (hi ρ W) fun ds W1 => le_fL h ds ρ W1
theorem le_expr {e e' : SE} (h : Le2 e e') : LeS (sExpr e) (sExpr e') := fun ρ W => LeO.rOut (h ρ W) fun _ _ => .inr rfl
theorem le_ret {e e' : SE} (h : Le2 e e') : LeS (sRet e) (sRet e') := fun ρ W => LeO.rOut (h ρ W) fun _ _ => .inr rfl
theorem le_asg {i : Nat} {e e' : SE} (h : Le2 e e') : LeS (sAsg i e) (sAsg i e') := fun ρ W => LeO.rOut (h ρ W) fun _ _ => .inr rfl
theorem le_asgG {g : SG} {e e' : SE} (h : Le2 e e') : LeS (sAsgG g e) (sAsgG g e') := fun ρ W => LeO.rOut (h ρ W) fun _ _ => .inr rfl
theorem le_own {i : Nat} {e e' : SA} (h : Le2 e e') : LeS (sOwn i e) (sOwn i e') := fun ρ W => LeO.rOut (h ρ W) fun _ _ => .inr rfl
theorem le_app {i : Nat} {e e' : SE} (h : Le2 e e') : LeS (sApp i e) (sApp i e') := fun ρ W => by
  unfold sApp
  split
  · exact LeO.rOut (h ρ W) fun _ _ => .inr rfl
  · exact .inr rfl
theorem le_tput {i : Nat} {k e e' : SE} (h : Le2 e e') : LeS (sTput i k e) (sTput i k e') := fun ρ W => by
  unfold sTput
  split
  · exact LeO.rOut (h ρ W) fun _ _ => .inr rfl
  · exact .inr rfl
theorem le_fz {f f' : SS} {z : Sl → Sl} (h : LeS f f') : LeS (fun ρ W => f (z ρ) W) (fun ρ W => f' (z ρ) W) := fun ρ W => h (z ρ) W
theorem le_tup {a a' : SA} (h : Le2 a a') : Le2 (eTup a) (eTup a') := fun ρ W => (h ρ W).bind fun _ => .inr rfl
theorem le_frz {a a' : SA} (h : Le2 a a') : Le2 (eFrz a) (eFrz a') := fun ρ W => (h ρ W).bind fun _ => .inr rfl
theorem le_lst {a a' : SA} (h : Le2 a a') : Le2 (lLst a) (lLst a') := fun ρ W => (h ρ W).bind fun _ => .inr rfl
theorem le_cons {e e' : SE} {a a' : SA} (h : Le2 e e') (k : Le2 a a') : Le2 (aCons e a) (aCons e' a') := fun ρ W => (h ρ W).bind fun p => (k ρ p.2).bind fun _ => .inr rfl
theorem le_eif {c : SB} {a a' b b' : SE} (h : Le2 a a') (k : Le2 b b') : Le2 (eIf c a b) (eIf c a' b') := fun ρ W => (LeR.refl (c ρ W)).bind fun p => by
  split
  · exact h ρ p.2
  · exact k ρ p.2
theorem le_seqI {a a' : SE} (h : Le2 a a') : Le2 (iSeq a) (iSeq a') := fun ρ W => (h ρ W).bind fun _ => .inr rfl
theorem le_cb {g : List Dt → Option Dt} {a a' : SA} (h : Le2 a a') : Le2 (eCB g a) (eCB g a') := fun ρ W => (h ρ W).bind fun _ => .inr rfl
theorem le_bin {g : Dt → Dt → Option Dt} {a a' b b' : SE} (h : Le2 a a') (k : Le2 b b') : Le2 (eBin g a b) (eBin g a' b') := fun ρ W => (h ρ W).bind fun p => (k ρ p.2).bind fun _ => .inr rfl
theorem le_call {n : Nat} {F F' : List Dt → Res Dt} {a a' : SA} (h : LeF F F') (k : Le2 a a') : Le2 (eCall n F a) (eCallX n F' a') := fun ρ W => (k ρ W).bind fun p => by
  split
  · rcases h p.1 with e | e
    · rw [e]; exact .inl rfl
    · rw [← e]
      cases F p.1 with
      | ok r => exact .inr rfl
      | exc c => exact .inl rfl
      | bad => exact .inl rfl
  · exact .inr rfl
theorem le_call0 {n : Nat} {F : List Dt → Res Dt} {a a' : SA} (k : Le2 a a') : Le2 (eCall n F a) (eCall n F a') := fun ρ W => (k ρ W).bind fun p => .inr rfl
theorem le_runP {m : Nat} {B B' : SS} (h : LeS B B') : LeF (runP m B) (runP m B') := fun ds => by
  unfold runP
  rcases h (start0 m ds) none with e | e
  · rw [e]; exact .inl rfl
  · rw [← e]; exact .inr rfl
end Sx

namespace Sx
open PySem PySem.Spec PyProof.Rows L2
/-! ### one of several defs, by its place in a tuple -/
theorem arm_call_sub (a b : Expr) (p : Pos) (args : List Expr) (keywords : List Keyword) (pos : Pos) (env : Env) : eval (.Call (.Subscript a b p) args keywords pos) env = (do
    callWith pos (← eval (.Subscript a b p) env) [] (backTo pos (starEach args env)) (backToKw pos (keywordEach keywords env))) := rfl
section
variable {X : Cx} {XE : Str → Hp → Prop} {a b e : Expr} {es ns : List Expr} {p pos tp : Pos} {tf : TE} {t : TA}
theorem pe_callAt {A : Addr → Sp → Prop} {E : L2.St → XK} (hf : PE X (.Subscript a b p) tf) (ha : PA X (e :: es) t)
    (hA : ∀ f sp, A f sp → ∃ (k : Nat) (fd : FuncData) (ps : List Str), FnOk X.prog X.w X.K X.mg X.base (L2.CX X.prog X.w) k f fd ps sp ∧ Room k X.A ∧ PySem.W.keepIn X.K (.ref f) = true ∧ Binds X.K fd ps [])
    (hx : ∀ σ, PassesAt (L2.CX X.prog X.w) X σ (E σ))
    (he : starEach (e :: es) X.env = (false, eval e X.env) :: starEach es X.env := by rfl) (hpl : (backTo pos (starEach es X.env)).any (·.1) = false := by rfl) :
    PE X (.Call (.Subscript a b p) (e :: es) [] pos) (fun σ H Q => tf σ H fun v H1 => ∃ f sp, v = .ref f ∧ A f sp ∧ t σ H1 fun vs H2 => sp vs H2 Q (E σ)) := by
  refine ⟨fun pins s σ H Q I h => ?_⟩
  rw [arm_call_sub]
  refine wpAny_bind (thn (hf.run pins s σ H _ I h) fun u s1 ⟨v, H1, I1, r1, f, sp, ev, hAf, ht⟩ => ?_)
  subst ev
  cases r1
  obtain ⟨k, fd, ps, F, hr, hk, hb⟩ := hA f sp hAf
  refine PySem.W.callWith_K (h₀ := X.base) I.ok.mod.kin hk (thn (ha.run pos pins s1 σ _ _ I1 ht) fun us s2 ⟨vs, H2, I2, r, q⟩ => ⟨I2.kIn, ?_⟩) he hpl
  exact run_fnS F hr hb (hx σ) I2 r q
/-- defs by their names -/
inductive FnL (X : Cx) : List Expr → List (Nat × (List Dt → Res Dt)) → List Addr → Prop
  | nil : FnL X [] [] []
  | cons {x : Str} {q : Pos} {k n : Nat} {f : Addr} {fd : FuncData} {ps : List Str} {Fs : List Dt → Res Dt} {es : List Expr} {fs : List (Nat × (List Dt → Res Dt))} {as : List Addr} :
    FnOk X.prog X.w X.K X.mg X.base (L2.CX X.prog X.w) k f fd ps (spX X.K X.mg n Fs) → Room k X.A → Gl X x → X.mg x = some (.ref f) → PySem.W.keepIn X.K (.ref f) = true → Binds X.K fd ps [] → (x == ("__debug__" : Str)) = false → FnL X es fs as → FnL X (.Name x q :: es) ((n, Fs) :: fs) (f :: as)
theorem FnL.pa : ∀ {ns : List Expr} {fs : List (Nat × (List Dt → Res Dt))} {as : List Addr}, FnL X ns fs as → PA X ns (fun σ H Q => Q (as.map V.ref) H)
  | _, _, _, .nil => pa_nil.weak fun _ _ _ h => h
  | _, _, _, .cons _ _ hg hm _ _ hdb L => (pa_cons (pe_glob (v := .ref _) hg hm rfl hdb) L.pa rfl).weak fun _ _ _ h => h
theorem FnL.len : ∀ {ns : List Expr} {fs : List (Nat × (List Dt → Res Dt))} {as : List Addr}, FnL X ns fs as → fs.length = as.length
  | _, _, _, .nil => rfl
  | _, _, _, .cons _ _ _ _ _ _ _ L => congrArg (· + 1) L.len
theorem FnL.at : ∀ {ns : List Expr} {fs : List (Nat × (List Dt → Res Dt))} {as : List Addr}, FnL X ns fs as → ∀ {i n : Nat} {Fs : List Dt → Res Dt}, fs[i]? = some (n, Fs) →
    ∃ (f : Addr) (k : Nat) (fd : FuncData) (ps : List Str), as[i]? = some f ∧ FnOk X.prog X.w X.K X.mg X.base (L2.CX X.prog X.w) k f fd ps (spX X.K X.mg n Fs) ∧ Room k X.A ∧ PySem.W.keepIn X.K (.ref f) = true ∧ Binds X.K fd ps []
  | _, _, _, .nil, _, _, _, h => by simp at h
  | _, _, _, .cons h1 h2 _ _ h3 h4 _ L, 0, n, Fs, h => by
    simp at h
    obtain ⟨rfl, rfl⟩ := h
    exact ⟨_, _, _, _, rfl, h1, h2, h3, h4⟩
  | _, _, _, .cons _ _ _ _ _ _ _ L, i + 1, n, Fs, h => by
    obtain ⟨f, k, fd, ps, e, r⟩ := L.at (i := i) (by simpa using h)
    exact ⟨f, k, fd, ps, by simpa using e, r⟩
def callAt (fs : List (Nat × (List Dt → Res Dt))) (d : Dt) (r : Tw → Res (List Dt × Tw)) (W : Tw) : Res (Dt × Tw) := match d with
  | .int k => match atI fs k with
    | some p => (r W).bind fun q => if q.1.length = p.1 then resX (p.2 q.1) q.2 else .bad
    | none => .bad
  | _ => .bad
def eCallIx (fs : List (Nat × (List Dt → Res Dt))) (fix : SE) (ga : SA) : SE := fun ρ W => (fix ρ W).bind fun p => callAt fs p.1 (ga ρ) p.2
/-- the call, the tuple standing in F -/
theorem callAt_of {W0 : WX} {fs : List (Nat × (List Dt → Res Dt))} {as : List Addr} {G : Gh} {ρ : Sl} {W : Tw} {σ : L2.St} {F H : Hp} {ga : SA} {k : Int} {pa : Addr} {Q : VK} (L : FnL X ns fs as) (hW : ∀ c σ H, XE c H → ∃ C, X.mg c = some (.ref C) ∧ W0 (.ref C) none σ H)
    (R : Rel X.K G ρ W σ F H) (ht : SqT X.K H pa (as.map V.ref))
    (q : Pg XE G (callAt fs (.int k) (ga ρ) W) fun d W' => ∀ v F' H', Same F F' → Rel X.K G ρ W' σ F' H' → Dq X.K F' v d → Q v H') :
    rIxT X.K (.ref pa) (.int k) H fun v H1 => ∃ f sp, v = .ref f ∧ (∃ (n : Nat) (Fs : List Dt → Res Dt), sp = spX X.K X.mg n Fs ∧ ∃ (k : Nat) (fd : FuncData) (ps : List Str), FnOk X.prog X.w X.K X.mg X.base (L2.CX X.prog X.w) k f fd ps sp ∧ Room k X.A ∧ PySem.W.keepIn X.K (.ref f) = true ∧ Binds X.K fd ps []) ∧ tA X.K XE ga σ H1 fun vs H2 => sp vs H2 Q (WE W0 σ) := by
  unfold callAt at q
  simp only at q
  cases hk : atI fs k with
  | none => rw [hk] at q; exact q.elim
  | some p =>
    obtain ⟨n, Fs⟩ := p
    rw [hk] at q
    simp only at q
    have hj : ∃ j, ixN fs.length k = some j ∧ fs[j]? = some (n, Fs) := by
      unfold atI at hk
      cases hx : ixN fs.length k with
      | none => rw [hx] at hk; cases hk
      | some j => rw [hx] at hk; exact ⟨j, rfl, hk⟩
    obtain ⟨j, hj1, hj2⟩ := hj
    obtain ⟨f, k', fd, ps, e, h1, h2, h3, h4⟩ := L.at hj2
    refine ⟨pa, as.map V.ref, k, .ref f, rfl, rfl, ht, ?_, f, spX X.K X.mg n Fs, rfl, ⟨n, Fs, rfl, k', fd, ps, h1, h2, h3, h4⟩, ?_⟩
    · unfold atI
      rw [List.length_map, ← L.len, hj1]
      show (as.map V.ref)[j]? = _
      rw [List.getElem?_map, e]; rfl
    · refine ⟨G, ρ, W, F, R, q.of_bind.mono fun ds W1 q vs F1 H1 s1 R1 hv => ?_⟩
      obtain ⟨hl, q⟩ := Pg.of_ite q
      refine ⟨F1, ds, R1.fh, R1.tb, hv, hl, ?_⟩
      cases hF : Fs ds with
      | ok r =>
        rw [hF] at q
        exact fun v F' H' g hw => q v F' H' (s1.trans g.ff) (R1.grow g) hw
      | exc c =>
        rw [hF] at q
        exact fun F' H' g => hW c σ H' (q F' H' (R1.grow g).gr0)
      | bad => rw [hF] at q; exact q.elim
theorem d_callIx {fs : List (Nat × (List Dt → Res Dt))} {as : List Addr} {fix : SE} {ga : SA} {x1} (L : FnL X ns fs as) (tk : TkX X XE) (hb : PE X b (tE X.K XE fix)) (hs : PlainIx b) (ha : PA X (e :: es) (tA X.K XE ga)) (hal : as.length ≤ 100)
    (he : starEach (e :: es) X.env = (false, eval e X.env) :: starEach es X.env := by rfl) (hpl : (backTo pos (starEach es X.env)).any (·.1) = false := by rfl) :
    PE X (.Call (.Subscript (.Tuple ns x1 tp) b p) (e :: es) [] pos) (tE X.K XE (eCallIx fs fix ga)) := by
  obtain ⟨W0, tw, hW⟩ := tk
  refine (pe_callAt (A := fun f sp => ∃ (n : Nat) (Fs : List Dt → Res Dt), sp = spX X.K X.mg n Fs ∧ ∃ (k : Nat) (fd : FuncData) (ps : List Str), FnOk X.prog X.w X.K X.mg X.base (L2.CX X.prog X.w) k f fd ps sp ∧ Room k X.A ∧ PySem.W.keepIn X.K (.ref f) = true ∧ Binds X.K fd ps []) (E := WE W0) (pe_ix ix_tup (pe_tupP L.pa) hb hs) ha (fun f sp ⟨_, _, _, h⟩ => h) (passAt tw) he hpl).weak fun σ H Q ⟨G, ρ, W, F, R, q⟩ => ?_
  refine ⟨by rw [List.length_map]; exact sz5 (by omega), fun np o hp ho => ?_⟩
  have g : Gr0 X.K F H (upd F np (.frz o (.tup (as.map V.ref)))) (upd H np (.frz o (.tup (as.map V.ref)))) := .new R.fh hp
  refine ⟨G, ρ, W, _, R.grow g, q.of_bind.mono fun d W1 q v F1 H1 s1 R1 hv => ?_⟩
  cases d with
  | int k =>
    cases hv
    exact callAt_of L hW R1 (.inl (.inr ⟨o, R1.fh _ _ (s1 _ _ upd_same)⟩)) (q.mono fun d W' q v F' H' s => q v F' H' (g.ff.trans (s1.trans s)))
  | _ => exact q.elim
/-- asked = (f, g, ..); return asked[i](..) -/
def sAskd (i : Nat) (fs : List (Nat × (List Dt → Res Dt))) (fix : SE) (ga : SA) : SS := fun ρ W => match ρ[i]? with
  | some none => rOut (eCallIx fs fix ga ρ W) fun d W1 => .rt (.d d) W1
  | _ => .bad
theorem s_askd {fs : List (Nat × (List Dt → Res Dt))} {as : List Addr} {fix : SE} {ga : SA} {x1} {i : Nat} {x : Str} {q1 q2 apos rpos : Pos} (L : FnL X ns fs as) (tk : TkX X XE) (hN : X.N.Nodup) (hi : X.N[i]? = some x) (hx : Loc X.env.scope x) (hv : PE X (.Name x q2) (tVar i)) (hb : PE X b (tE X.K XE fix)) (hs : PlainIx b) (ha : PA X (e :: es) (tA X.K XE ga)) (hal : as.length ≤ 100)
    (hsw : swapsWith (.Tuple ns x1 tp) (some (.Name x q1)) apos.line X.env = pure false := by rfl) (hf : X.fn x = true ∨ X.env.scope.names.lookup x = some .local := by first | exact .inl rfl | exact .inr rfl | assumption)
    (he : starEach (e :: es) X.env = (false, eval e X.env) :: starEach es X.env := by rfl) (hpl : (backTo pos (starEach es X.env)).any (·.1) = false := by rfl) :
    PSs X [.Assign [.Name x q1] (.Tuple ns x1 tp) apos, .Return (some (.Call (.Subscript (.Name x q2) b p) (e :: es) [] pos)) rpos] (tS X.K XE (sAskd i fs fix ga)) := by
  obtain ⟨W0, tw, hW⟩ := tk
  refine (pss_cons (ps_set (i := i) hN hi hx (pe_tupP L.pa) hsw hf) (pss_one (ps_ret (pe_callAt (A := fun f sp => ∃ (n : Nat) (Fs : List Dt → Res Dt), sp = spX X.K X.mg n Fs ∧ ∃ (k : Nat) (fd : FuncData) (ps : List Str), FnOk X.prog X.w X.K X.mg X.base (L2.CX X.prog X.w) k f fd ps sp ∧ Room k X.A ∧ PySem.W.keepIn X.K (.ref f) = true ∧ Binds X.K fd ps []) (E := WE W0) (pe_ix ix_tup hv hb hs) ha (fun f sp ⟨_, _, _, h⟩ => h) (passAt tw) he hpl)))).weak fun D σ H ⟨G, ρ, W, F, R, q⟩ => ?_
  unfold sAskd at q
  split at q
  · rename_i hni
    have hil : i < σ.length := by
      rw [← R.len]
      exact (List.getElem?_eq_some_iff.mp hni).1
    refine ⟨by rw [List.length_map]; exact sz5 (by omega), fun np o hp ho => ?_⟩
    have g : Gr0 X.K F H (upd F np (.frz o (.tup (as.map V.ref)))) (upd H np (.frz o (.tup (as.map V.ref)))) := .new R.fh hp
    have R1 : Rel X.K G ρ W (σ.set i (some (.ref np))) (upd F np (.frz o (.tup (as.map V.ref)))) (upd H np (.frz o (.tup (as.map V.ref)))) := (R.grow g).restrict (by rw [List.length_set]; exact R.len) fun j sv hj => ⟨hj, by
      rw [List.getElem?_set_ne]
      exact fun z => by rw [← z, hni] at hj; cases hj⟩
    refine ⟨.ref np, List.getElem?_set_self hil, ?_⟩
    refine ⟨G, ρ, W, _, R1, q.of_rOut.of_bind.mono fun d W1 q v F1 H1 s1 R2 hv => ?_⟩
    cases d with
    | int k =>
      cases hv
      exact callAt_of L hW R2 (.inl (.inr ⟨o, R2.fh _ _ (s1 _ _ upd_same)⟩)) (q.mono fun d W' q v F' H' s R' hv' => q G ρ _ v F' H' (.refl _) (g.ff.trans (s1.trans s)) R' hv')
    | _ => exact q.elim
  · exact q.elim
end
end Sx

namespace Sx
open PySem PySem.Spec PyProof.Rows L2
/-! ### defs that get a function, and defs that make one, with their exceptions -/
def spFX (K : PySem.W.Frag) (mg : Str → Option Value) (n : Nat) (x : Str) (Fs : List Dt → Res Dt) : Sp := fun vs H Q E => ∃ F ds vr f c L, vs = vr ++ [.ref f] ∧ Same F H ∧ TabsF (tabsOf K) F H ∧ DqAll K F vr ds ∧ ds.length = n ∧ lamOf K x = some L ∧ F f = some (LamO f c L) ∧ F c = some (LamX.CodeO c L.q) ∧ match Fs ds with
  | .ok r => ∀ v F' H', Gr0 K F H F' H' → Dq K F' v r → Q v H'
  | .exc c => ∀ F' H', Gr0 K F H F' H' → XEof mg E c H'
  | .bad => False
def CalFX (P : Program) (w : World) (K : PySem.W.Frag) (mg : Str → Option Value) (base : Heap) (x : Str) (k n : Nat) (ps : List Str) (j m : Nat) (Fs : Str → (List Dt → Res Dt) → List Dt → Res Dt) : Prop :=
  ∀ y g, LamAll P w K mg base y j m g → ∃ f fd, FnOk P w K mg base (L2.CX P w) k f fd ps (spFX K mg n y (Fs y g)) ∧ mg x = some (.ref f) ∧ PySem.W.keepIn K (.ref f) = true ∧ Binds K fd ps []
section
variable {X : Cx} {XE : Str → Hp → Prop} {e a : Expr} {es : List Expr} {pos p : Pos} {fa : SE} {ga : SA} {k n i : Nat} {ps : List Str} {x nm : Str} {Fs : List Dt → Res Dt} {f : Addr} {fd : FuncData}
theorem d_callFX (F : FnOk X.prog X.w X.K X.mg X.base (L2.CX X.prog X.w) k f fd ps (spFX X.K X.mg n x Fs)) (hr : Room k X.A) (hg : Gl X nm) (hm : X.mg nm = some (.ref f)) (hk : PySem.W.keepIn X.K (.ref f) = true) (hb : Binds X.K fd ps []) (tk : TkX X XE) (ha : PA X (e :: es) (tAF X.K XE ga x))
    (hdb : (nm == ("__debug__" : Str)) = false := by decide) (he : starEach (e :: es) X.env = (false, eval e X.env) :: starEach es X.env := by rfl) (hpl : (backTo pos (starEach es X.env)).any (·.1) = false := by rfl) :
    PE X (.Call (.Name nm p) (e :: es) [] pos) (tE X.K XE (eCallX n Fs ga)) := by
  obtain ⟨W, tw, hW⟩ := tk
  refine (pe_callS (E := WE W) F hr hg hm hk hb (passAt tw) ha hdb he hpl).weak fun σ H Q ⟨G, ρ, Wt, Fz, R, q⟩ => ?_
  refine ⟨G, ρ, Wt, Fz, R, q.of_bind.mono fun ds W1 q vs f c L F1 H1 s1 R1 hv h1 h2 h3 => ?_⟩
  obtain ⟨hl, q⟩ := Pg.of_ite q
  refine ⟨F1, ds, vs, f, c, L, rfl, R1.fh, R1.tb, hv, hl, h1, h2, h3, ?_⟩
  cases hF : Fs ds with
  | ok r =>
    rw [hF] at q
    exact fun v F' H' g hw => q v F' H' (s1.trans g.ff) (R1.grow g) hw
  | exc c =>
    rw [hF] at q
    exact fun F' H' g => hW c σ H' (q F' H' (R1.grow g).gr0)
  | bad => rw [hF] at q; exact q.elim
end
section
variable {P : Program} {w : World} {K : PySem.W.Frag} {mg : Str → Option Value} {base : Heap} {x y qual : Str} {st : Stmt} {f : Addr} {fd : FuncData} {N ps : List Str} {k n : Nat} {B : SS}
theorem fn_FX (F : Fun K x qual st f fd) (S : FnScope N ps (defScope st)) (hn : ps.length = n + 1)
    (hb : ∀ (cdv : Value) (A : Around) (outer : List Env) (s : Shared) (H : Hp) (E : XK), Room k (A.deeper (envOfC qual (defScope st) s.heap.objs.size f cdv)) → PSs (cxOf (L2.CX P w) P w K mg base N qual (defScope st) f cdv A outer s H E) (defBody st) (tS K (XEof mg E) B)) :
    FnOk P w K mg base (L2.CX P w) (k + 1) f fd ps (spFX K mg n y (runF N.length y B)) := by
  refine F.okX S (fun vs H Q E h => ?_) fun cdv A outer s H vs Q E hr h => ⟨tS K (XEof mg E) B, hb cdv A outer s H E hr, ?_⟩
  · obtain ⟨Fz, ds, vr, f, c, L, rfl, _, _, hd, hl, _⟩ := h
    rw [List.length_append, hd.length, hl, hn]; rfl
  · obtain ⟨Fz, ds, vr, f, c, L, rfl, sm, tb, hd, hl, h1, h2, h3, hm⟩ := h
    have e : L2.start N (vr ++ [.ref f]) = (vr ++ [V.ref f]).map some ++ List.replicate (N.length - (ds.length + 1)) none := by unfold L2.start; rw [List.length_append, hd.length]; rfl
    rw [e]
    refine ⟨_, Sx.startFn N.length y ds, none, Fz, Rel.startFn sm tb hd h1 h2 h3, ?_⟩
    unfold runF at hm
    cases hB : B (Sx.startFn N.length y ds) none with
    | nx ρ W =>
      rw [hB] at hm
      exact fun G' σ' F' H' b s R => hm .non F' H' (by have g := R.gr; unfold Gh.tm at g; rw [b.T0, b.F0, b.H0] at g; exact g.mono fun _ z => nomatch z) .non
    | rt r W =>
      rw [hB] at hm
      cases r with
      | d x => exact fun G' ρ' σ' v F' H' b s R hv => hm v F' H' (by have g := R.gr; unfold Gh.tm at g; rw [b.T0, b.F0, b.H0] at g; exact g.mono fun _ z => nomatch z) hv
      | _ => exact hm.elim
    | exc c =>
      rw [hB] at hm
      exact fun F' H' g => hm F' H' (by unfold Gh.tm at g; exact g.mono fun _ z => nomatch z)
    | rs r ρ W => rw [hB] at hm; exact hm.elim
    | bad => rw [hB] at hm; exact hm.elim
theorem fn_Xc (F : Fun K x qual st (He.fAd K (x, none)) fd) (S : FnScope N ps (defScope st)) (hn : ps.length = n)
    (hb : ∀ (A : Around) (outer : List Env) (s : Shared) (H : Hp) (E : XK), Room k (A.deeper (envOfC qual (defScope st) s.heap.objs.size (He.fAd K (x, none)) (.ref (He.cT K (x, none)).1))) → PSs (cxOf (L2.CX P w) P w K mg base N qual (defScope st) (He.fAd K (x, none)) (.ref (He.cT K (x, none)).1) A outer s H E) (defBody st) (tS K (XEof mg E) B)) :
    FnOk P w K mg base (L2.CX P w) (k + 1) (He.fAd K (x, none)) fd ps (spX K mg n (runP N.length B)) := by
  obtain ⟨⟨oc, od, kV, doc, pm, an, cdv, ct, osl, rfl, lk, hcd⟩, kp⟩ := F
  obtain ⟨c, rfl⟩ := He.codeIn_ref hcd
  have hc : He.codeOf K (x, none) = c := He.codeOf_eq lk rfl
  have hb' : ∀ (A : Around) (outer : List Env) (s : Shared) (H : Hp) (E : XK), Room k (A.deeper (envOfC qual (defScope st) s.heap.objs.size (He.fAd K (x, none)) (.ref c))) → PSs (cxOf (L2.CX P w) P w K mg base N qual (defScope st) (He.fAd K (x, none)) (.ref c) A outer s H E) (defBody st) (tS K (XEof mg E) B) := by
    have q : (He.cT K (x, none)).1 = c := hc
    rw [q] at hb
    exact hb
  refine fn_of lk hcd S (fun vs H Q E h => ?_) fun A outer s H vs Q E hr h => ⟨tS K (XEof mg E) B, hb' A outer s H E hr, ?_⟩
  · obtain ⟨Fz, ds, _, _, hd, hl, _⟩ := h
    rw [hd.length, hl, hn]
  · obtain ⟨Fz, ds, sm, tb, hd, hl, hm⟩ := h
    have e : L2.start N vs = vs.map some ++ List.replicate (N.length - ds.length) none := by unfold L2.start; rw [hd.length]
    rw [e]
    refine ⟨_, start0 N.length ds, none, Fz, Rel.start sm tb hd, ?_⟩
    unfold runP at hm
    cases hB : B (start0 N.length ds) none with
    | nx ρ W =>
      rw [hB] at hm
      exact fun G' σ' F' H' b s R => hm .non F' H' (by have g := R.gr; unfold Gh.tm at g; rw [b.T0, b.F0, b.H0] at g; exact g.mono fun _ z => nomatch z) .non
    | rt r W =>
      rw [hB] at hm
      cases r with
      | d x => exact fun G' ρ' σ' v F' H' b s R hv => hm v F' H' (by have g := R.gr; unfold Gh.tm at g; rw [b.T0, b.F0, b.H0] at g; exact g.mono fun _ z => nomatch z) hv
      | _ => exact hm.elim
    | exc c =>
      rw [hB] at hm
      exact fun F' H' g => hm F' H' (by unfold Gh.tm at g; exact g.mono fun _ z => nomatch z)
    | rs r ρ W => rw [hB] at hm; exact hm.elim
    | bad => rw [hB] at hm; exact hm.elim
end
end Sx

namespace Sx
open PySem PySem.W PySem.Calls PyProof.Rows HandSHeadRun
/-! ### the head's run in two parts: what the kernel must hold at once is less -/
end Sx

namespace Sx
open PySem PySem.Spec PyProof.Rows L2

def B_is_between : SS :=
    (sRet (eAnd (eUn (isiD "int") (eVar 0)) (eAnd (eNot (eUn (isiD "bool") (eVar 0))) (eChain leD leD (eVar 1) (eVar 0) (eVar 2)))))
def F_is_between := runP 3 B_is_between

def wC_divisor_1 : SB :=
    (bOf (eBin neD (eVar 1) (eC (.int 0))))
def wB_divisor_1 : SS :=
    (sPar [0, 1] (mD (eVar 1) (mD (eBin modD (eVar 0) (eVar 1)) mNil)))
def B_divisor : SS :=
    (sSeq (sWhile (fuelI 1) wC_divisor_1 wB_divisor_1)
    (sRet (eCB absD (aCons (eVar 0) aNil))))
def F_divisor := runP 2 B_divisor

def B_is_less : SS :=
    (sRet (eBin ltD (eBin mulD (eBin ixD (eVar 0) (eC (.int 0))) (eBin ixD (eVar 1) (eC (.int 1)))) (eBin mulD (eBin ixD (eVar 1) (eC (.int 0))) (eBin ixD (eVar 0) (eC (.int 1))))))
def F_is_less := runP 2 B_is_less

def B_is_endless : SS :=
    (sRet (eAnd (eBin eqD (eBin ixD (eVar 0) (eC (.int 0))) (eC (.str "shares"))) (eBin ltD (eCB lenD (aCons (eBin ixD (eVar 0) (eC (.int 2))) aNil)) (eCB lenD (aCons (eBin ixD (eVar 0) (eC (.int 1))) aNil)))))
def F_is_endless := runP 1 B_is_endless

def B__law_town : SS :=
    (sRetL (lBin addL (eFrz (lLst (aCons (eC (.int 0)) aNil))) (eFrz (lCB listL (aCons (eVar 0) aNil)))))
def F__law_town := runL 1 B__law_town

def B__law_draw : SS :=
    (sSeq (sSetT 1 (eC (.int 0)) (eBin addD (eIxT 1 (eC (.int 0))) (eC (.int 1))))
    (sSeq (sIf (bOf (eBin eqD (eVar 0) (eFrz (lLst aNil)))) (sRet (eBin modD (eBin fdivD (eBin mulD (eBin mulD (eIxT 1 (eC (.int 0))) (eIxT 1 (eC (.int 0)))) (eC (.int 7))) (eC (.int 3))) (eVar 2))) sPass)
    (sSeq (sAsg 3 (eBin modD (eIxT 1 (eC (.int 0))) (eCB lenD (aCons (eVar 0) aNil))))
    (sSeq (sAsg 4 (eIxT 1 (eBin addD (eC (.int 1)) (eVar 3))))
    (sSeq (sIf (bAnd (bOf (eBin geD (eBin ixD (eVar 0) (eVar 3)) (eBin powD (eC (.int 10)) (eC (.int 18))))) (bOf (eBin gtD (eVar 4) (eC (.int 0))))) (sSeq (sSetT 1 (eBin addD (eC (.int 1)) (eVar 3)) (eBin fdivD (eVar 4) (eVar 2)))
    (sRet (eBin modD (eVar 4) (eVar 2)))) sPass)
    (sSeq (sAsg 5 (eBin modD (eBin addD (eBin ixD (eVar 0) (eVar 3)) (eBin mulD (eC (.int 104729)) (eIxT 1 (eC (.int 0))))) (eC (.int 4294967291))))
    (sSeq (sAsg 5 (eBin modD (eBin powD (eVar 5) (eC (.int 5))) (eC (.int 4294967279))))
    (sRet (eBin modD (eBin fdivD (eBin modD (eBin addD (eBin mulD (eBin fdivD (eVar 5) (eC (.int 64))) (eC (.int 69621))) (eVar 5)) (eC (.int 4294967231))) (eC (.int 8))) (eVar 2))))))))))
def F__law_draw := runT 6 B__law_draw



def B_fraction : SS :=
    (sSeq (sAsg 2 (eCall 2 F_divisor (aCons (eVar 0) (aCons (eVar 1) aNil))))
    (sRet (eTup (aCons (eBin fdivD (eVar 0) (eVar 2)) (aCons (eBin fdivD (eVar 1) (eVar 2)) aNil)))))
def F_fraction := runP 3 B_fraction

def B_lesser : SS :=
    (sRet (eIf (bOf (eCall 2 F_is_less (aCons (eVar 1) (aCons (eVar 0) aNil)))) (eVar 1) (eVar 0)))
def F_lesser := runP 2 B_lesser

def lB_are_pairs_1 : SS :=
    (sSeq (sIf (bOr (bNot (bOf (eUn (isiD "tuple") (eVar 4)))) (bOr (bOf (eBin neD (eCB lenD (aCons (eVar 4) aNil)) (eC (.int 2)))) (bNot (bOf (eCall 3 F_is_between (aCons (eBin ixD (eVar 4) (eC (.int 0))) (aCons (eC (.int 0)) (aCons (eBin subD (eVar 0) (eC (.int 1))) aNil)))))))) (sRet (eC (.bool false))) sPass)
    (sIf (bNot (bOf (eCall 3 F_is_between (aCons (eBin ixD (eVar 4) (eC (.int 1))) (aCons (eC (.int 1)) (aCons (eVar 2) aNil)))))) (sRet (eC (.bool false))) sPass))
def cE_are_pairs_2 : SE :=
    (eBin ltD (eBin ixD (eBin ixD (eVar 1) (eVar 5)) (eC (.int 0))) (eBin ixD (eBin ixD (eVar 1) (eBin addD (eVar 5) (eC (.int 1)))) (eC (.int 0))))
def B_are_pairs : SS :=
    (sSeq (sIf (bOr (bNot (bOf (eUn (isiD "tuple") (eVar 1)))) (bOf (eBin ltD (eCB lenD (aCons (eVar 1) aNil)) (eVar 3)))) (sRet (eC (.bool false))) sPass)
    (sSeq (sFor (iSeq (eVar 1)) (gN 4) lB_are_pairs_1)
    (sRet (eCB allD (aCons (eFrz (lComp (iRng (aCons (eBin subD (eCB lenD (aCons (eVar 1) aNil)) (eC (.int 1))) aNil)) (gN 5) bYes cE_are_pairs_2 [5])) aNil)))))
def F_are_pairs := runP 6 B_are_pairs

def B_is_amount : SS :=
    (sSeq (sIf (bOr (bNot (bOf (eUn (isiD "tuple") (eVar 0)))) (bOr (bOf (eBin neD (eCB lenD (aCons (eVar 0) aNil)) (eC (.int 2)))) (bNot (bOf (eCall 3 F_is_between (aCons (eBin ixD (eVar 0) (eC (.int 1))) (aCons (eC (.int 1)) (aCons (eC (.int 1000)) aNil)))))))) (sRet (eC (.bool false))) sPass)
    (sRet (eAnd (eCall 3 F_is_between (aCons (eBin ixD (eVar 0) (eC (.int 0))) (aCons (eC (.int 0)) (aCons (eBin mulD (eC (.int 1000000)) (eBin ixD (eVar 0) (eC (.int 1)))) aNil)))) (eBin eqD (eCall 2 F_divisor (aCons (eBin ixD (eVar 0) (eC (.int 0))) (aCons (eBin ixD (eVar 0) (eC (.int 1))) aNil))) (eC (.int 1))))))
def F_is_amount := runP 1 B_is_amount

def B__law_pick : SS :=
    (sRet (eBin ixD (eVar 2) (eCallT 1 F__law_draw (eVar 0) 1 (aCons (eCB lenD (aCons (eVar 2) aNil)) aNil))))
def F__law_pick := runT 3 B__law_pick





def B_plus : SS :=
    (sRet (eCall 2 F_fraction (aCons (eBin addD (eBin mulD (eBin ixD (eVar 0) (eC (.int 0))) (eBin ixD (eVar 1) (eC (.int 1)))) (eBin mulD (eBin ixD (eVar 1) (eC (.int 0))) (eBin ixD (eVar 0) (eC (.int 1))))) (aCons (eBin mulD (eBin ixD (eVar 0) (eC (.int 1))) (eBin ixD (eVar 1) (eC (.int 1)))) aNil))))
def F_plus := runP 2 B_plus

def B_product : SS :=
    (sRet (eCall 2 F_fraction (aCons (eBin mulD (eBin ixD (eVar 0) (eC (.int 0))) (eBin ixD (eVar 1) (eC (.int 0)))) (aCons (eBin mulD (eBin ixD (eVar 0) (eC (.int 1))) (eBin ixD (eVar 1) (eC (.int 1)))) aNil))))
def F_product := runP 2 B_product

def B_quotient : SS :=
    (sRet (eCall 2 F_fraction (aCons (eBin mulD (eBin ixD (eVar 0) (eC (.int 0))) (eBin ixD (eVar 1) (eC (.int 1)))) (aCons (eBin mulD (eBin ixD (eVar 0) (eC (.int 1))) (eBin ixD (eVar 1) (eC (.int 0)))) aNil))))
def F_quotient := runP 2 B_quotient

def cE_is_rung_1 : SE :=
    (eVar 3)
def cE_is_rung_2 : SE :=
    (eBin inD (eVar 3) (eVar 2))
def B_is_rung : SS :=
    (sSeq (sIf (bOr (bNot (bOf (eUn (isiD "tuple") (eVar 1)))) (bOr (bNot (bOf (eChain leD leD (eC (.int 2)) (eCB lenD (aCons (eVar 1) aNil)) (eC (.int 3))))) (bNot (bOf (eUn (isiD "str") (eBin ixD (eVar 1) (eC (.int 0)))))))) (sRet (eC (.bool false))) sPass)
    (sSeq (sIf (bOf (eBin eqD (eBin ixD (eVar 1) (eC (.int 0))) (eC (.str "fixed")))) (sRet (eAnd (eBin eqD (eCB lenD (aCons (eVar 1) aNil)) (eC (.int 2))) (eCall 4 F_are_pairs (aCons (eVar 0) (aCons (eBin ixD (eVar 1) (eC (.int 1))) (aCons (eC (.int 999)) (aCons (eC (.int 1)) aNil))))))) sPass)
    (sSeq (sIf (bOr (bOf (eBin neD (eBin ixD (eVar 1) (eC (.int 0))) (eC (.str "shares")))) (bOf (eBin neD (eCB lenD (aCons (eVar 1) aNil)) (eC (.int 3))))) (sRet (eC (.bool false))) sPass)
    (sSeq (sIf (bOr (bNot (bOf (eCall 4 F_are_pairs (aCons (eVar 0) (aCons (eBin ixD (eVar 1) (eC (.int 1))) (aCons (eC (.int 20)) (aCons (eC (.int 1)) aNil))))))) (bNot (bOf (eCall 4 F_are_pairs (aCons (eVar 0) (aCons (eBin ixD (eVar 1) (eC (.int 2))) (aCons (eC (.int 999)) (aCons (eC (.int 0)) aNil)))))))) (sRet (eC (.bool false))) sPass)
    (sSeq (sAsg 2 (eFrz (lComp (iSeq (eBin ixD (eVar 1) (eC (.int 1)))) (gTu 2 (gsCons (gN 3) (gsCons (gN 4) gsNil))) bYes cE_is_rung_1 [3, 4])))
    (sRet (eCB allD (aCons (eFrz (lComp (iSeq (eBin ixD (eVar 1) (eC (.int 2)))) (gTu 2 (gsCons (gN 3) (gsCons (gN 5) gsNil))) bYes cE_is_rung_2 [3, 5])) aNil))))))))
def F_is_rung := runP 6 B_is_rung

def B_check_amount : SS :=
    (sIf (bNot (bOf (eCall 1 F_is_amount (aCons (eVar 0) aNil)))) sNever sPass)
def F_check_amount := runP 1 B_check_amount

def cE_fixed_pieces_1 : SE :=
    (eVar 5)
def lB_fixed_pieces_2 : SS :=
    (sSet 3 (eVar 4) (eCall 2 F_fraction (aCons (eVar 5) (aCons (eVar 2) aNil))))
def B_fixed_pieces : SS :=
    (sSeq (sAsg 2 (eCB sumD (aCons (eFrz (lComp (iSeq (eVar 1)) (gTu 2 (gsCons (gN 4) (gsCons (gN 5) gsNil))) bYes cE_fixed_pieces_1 [4, 5])) aNil)))
    (sSeq (sOwn 3 (lBin mulL (eFrz (lLst (aCons (eC (PyData.tuple [.int 0, .int 1])) aNil))) (eVar 0)))
    (sSeq (sFor (iSeq (eVar 1)) (gTu 2 (gsCons (gN 4) (gsCons (gN 5) gsNil))) lB_fixed_pieces_2)
    (sRet (eFrz (lLst (aCons (eTup (aCons (eTup (aCons (eVar 2) (aCons (eC (.int 1)) aNil))) (aCons (eCB tupleD (aCons (eBor 3) aNil)) aNil))) aNil)))))))
def F_fixed_pieces := runP 6 B_fixed_pieces

def cC__law_pairs_1 : SB :=
    (bOf (eBin eqD (eCallT 1 F__law_draw (eVar 0) 1 (aCons (eC (.int 2)) aNil)) (eC (.int 0))))
def cE__law_pairs_1 : SE :=
    (eVar 5)
def cE__law_pairs_2 : SE :=
    (eTup (aCons (eVar 5) (aCons (eCallT 1 F__law_pick (eVar 0) 1 (aCons (eVar 3) aNil)) aNil)))
def B__law_pairs : SS :=
    (sSeq (sAsg 4 (eFrz (lComp (iRng (aCons (eVar 2) aNil)) (gN 5) cC__law_pairs_1 cE__law_pairs_1 [5])))
    (sSeq (sIf (bOf (eBin eqD (eVar 4) (eFrz (lLst aNil)))) (sAsg 4 (eFrz (lLst (aCons (eCallT 1 F__law_draw (eVar 0) 1 (aCons (eVar 2) aNil)) aNil)))) sPass)
    (sRet (eCB tupleD (aCons (eFrz (lComp (iSeq (eVar 4)) (gN 5) bYes cE__law_pairs_2 [5])) aNil)))))
def F__law_pairs := runT 6 B__law_pairs



def B_minus : SS :=
    (sRet (eCall 2 F_plus (aCons (eVar 0) (aCons (eTup (aCons (eUn negD (eBin ixD (eVar 1) (eC (.int 0)))) (aCons (eBin ixD (eVar 1) (eC (.int 1))) aNil))) aNil))))
def F_minus := runP 2 B_minus

def cE_is_ladder_1 : SE :=
    (eCall 2 F_is_rung (aCons (eVar 1) (aCons (eVar 3) aNil)))
def B_is_ladder : SS :=
    (sSeq (sIf (bOr (bNot (bOf (eUn (isiD "tuple") (eVar 0)))) (bOr (bOf (eBin neD (eCB lenD (aCons (eVar 0) aNil)) (eC (.int 2)))) (bNot (bOf (eCall 3 F_is_between (aCons (eBin ixD (eVar 0) (eC (.int 0))) (aCons (eC (.int 1)) (aCons (eC (.int 5)) aNil)))))))) (sRet (eC (.bool false))) sPass)
    (sSeq (sAsgG (gTu 2 (gsCons (gN 1) (gsCons (gN 2) gsNil))) (eVar 0))
    (sSeq (sIf (bOr (bNot (bOf (eUn (isiD "tuple") (eVar 2)))) (bNot (bOf (eChain leD leD (eC (.int 1)) (eCB lenD (aCons (eVar 2) aNil)) (eC (.int 4)))))) (sRet (eC (.bool false))) sPass)
    (sRet (eAnd (eCB allD (aCons (eFrz (lComp (iSeq (eVar 2)) (gN 3) bYes cE_is_ladder_1 [3])) aNil)) (eCall 1 F_is_endless (aCons (eBin ixD (eVar 2) (eUn negD (eC (.int 1)))) aNil)))))))
def F_is_ladder := runP 4 B_is_ladder

def lB__law_rung_1 : SS :=
    (sIf (bAnd (bOf (eBin neD (eVar 7) (eVar 5))) (bOf (eBin gtD (eCallT 1 F__law_draw (eVar 0) 1 (aCons (eC (.int 4)) aNil)) (eC (.int 0))))) (sApp 6 (eTup (aCons (eVar 7) (aCons (eCallT 1 F__law_pick (eVar 0) 1 (aCons (eFrz (lLst (aCons (eC (.int 1)) (aCons (eC (.int 2)) (aCons (eC (.int 3)) (aCons (eC (.int 5)) (aCons (eC (.int 10)) (aCons (eC (.int 20)) (aCons (eBin mulD (eC (.int 5)) (eVar 8)) aNil))))))))) aNil)) aNil)))) sPass)
def B__law_rung : SS :=
    (sSeq (sIf (bOf (eBin eqD (eVar 3) (eC (.int 0)))) (sRet (eTup (aCons (eC (.str "fixed")) (aCons (eCallT 2 F__law_pairs (eVar 0) 1 (aCons (eVar 2) (aCons (eFrz (lLst (aCons (eC (.int 1)) (aCons (eC (.int 2)) (aCons (eC (.int 3)) (aCons (eC (.int 5)) (aCons (eC (.int 10)) (aCons (eC (.int 20)) (aCons (eC (.int 100)) (aCons (eC (.int 999)) aNil)))))))))) aNil))) aNil)))) sPass)
    (sSeq (sAsg 4 (eCallT 2 F__law_pairs (eVar 0) 1 (aCons (eVar 2) (aCons (eFrz (lLst (aCons (eC (.int 1)) (aCons (eC (.int 1)) (aCons (eC (.int 2)) (aCons (eC (.int 3)) (aCons (eC (.int 4)) (aCons (eC (.int 20)) aNil)))))))) aNil))))
    (sSeq (sAsg 5 (eIf (bOf (eBin eqD (eVar 3) (eC (.int 2)))) (eBin ixD (eCallT 1 F__law_pick (eVar 0) 1 (aCons (eVar 4) aNil)) (eC (.int 0))) (eUn negD (eC (.int 1)))))
    (sSeq (sOwn 6 (lLst aNil))
    (sSeq (sFor (iSeq (eVar 4)) (gTu 2 (gsCons (gN 7) (gsCons (gN 8) gsNil))) lB__law_rung_1)
    (sRet (eTup (aCons (eC (.str "shares")) (aCons (eVar 4) (aCons (eCB tupleD (aCons (eBor 6) aNil)) aNil))))))))))
def F__law_rung := runT 9 B__law_rung


def B_check_ladder : SS :=
    (sIf (bNot (bOf (eCall 1 F_is_ladder (aCons (eVar 0) aNil)))) sNever sPass)
def F_check_ladder := runP 1 B_check_ladder

def cE_share_pieces_1 : SE :=
    (eTup (aCons (eVar 9) (aCons (eTup (aCons (eVar 12) (aCons (eC (.int 1)) aNil))) aNil)))
def cE_share_pieces_3 : SE :=
    (eVar 10)
def lB_share_pieces_4 : SS :=
    (sSeq (sSet 7 (eVar 9) (eCall 2 F_fraction (aCons (eVar 10) (aCons (eVar 6) aNil))))
    (sIf (bOf (eDin 3 (eVar 9))) (sSeq (sAsg 11 (eCall 2 F_quotient (aCons (eDget 3 (eVar 9)) (aCons (eBin ixD (eBor 7) (eVar 9)) aNil))))
    (sAsg 8 (eIf (bOf (eBin isD (eVar 8) (eC .none))) (eVar 11) (eCall 2 F_lesser (aCons (eVar 8) (aCons (eVar 11) aNil)))))) sPass))
def cE_share_pieces_5 : SE :=
    (eTup (aCons (eVar 9) (aCons (eCall 2 F_minus (aCons (eDget 3 (eVar 9)) (aCons (eCall 2 F_product (aCons (eVar 8) (aCons (eBin ixD (eBor 7) (eVar 9)) aNil))) aNil))) aNil)))
def cC_share_pieces_6 : SB :=
    (bOr (bOf (eDnin 3 (eBin ixD (eVar 13) (eC (.int 0))))) (bOf (eBin neD (eDget 3 (eBin ixD (eVar 13) (eC (.int 0)))) (eC (PyData.tuple [.int 0, .int 1])))))
def cE_share_pieces_6 : SE :=
    (eVar 13)
def cC_share_pieces_7 : SB :=
    (bOf (eBin neD (eDget 3 (eVar 9)) (eC (PyData.tuple [.int 0, .int 1]))))
def cE_share_pieces_7 : SE :=
    (eTup (aCons (eVar 9) (aCons (eDget 3 (eVar 9)) aNil)))
def wC_share_pieces_2 : SB :=
    (bOf (eBin neD (eVar 4) (eFrz (lLst aNil))))
def wB_share_pieces_2 : SS :=
    (sSeq (sAsg 6 (eCB sumD (aCons (eFrz (lComp (iSeq (eVar 4)) (gTu 2 (gsCons (gN 9) (gsCons (gN 10) gsNil))) bYes cE_share_pieces_3 [9, 10])) aNil)))
    (sSeq (sOwn 7 (lBin mulL (eFrz (lLst (aCons (eC (PyData.tuple [.int 0, .int 1])) aNil))) (eVar 0)))
    (sSeq (sAsg 8 (eC .none))
    (sSeq (sFor (iSeq (eVar 4)) (gTu 2 (gsCons (gN 9) (gsCons (gN 10) gsNil))) lB_share_pieces_4)
    (sSeq (sApp 5 (eTup (aCons (eVar 8) (aCons (eCB tupleD (aCons (eBor 7) aNil)) aNil))))
    (sSeq (sIf (bOf (eBin isD (eVar 8) (eC .none))) (fun ρ W => (sRet (eVar 5)) (frzS 5 ρ) W) sPass)
    (sSeq (sDk 3 (kDict (eFrz (lLock 3 (lComp (iDk 3) (gN 9) bYes cE_share_pieces_5 [9])))))
    (sSeq (sAsg 4 (eFrz (lComp (iSeq (eVar 4)) (gN 13) cC_share_pieces_6 cE_share_pieces_6 [13])))
    (sDk 3 (kDict (eFrz (lLock 3 (lComp (iDk 3) (gN 9) cC_share_pieces_7 cE_share_pieces_7 [9])))))))))))))
def B_share_pieces : SS :=
    (sSeq (sDk 3 (kDict (eFrz (lComp (iSeq (eVar 2)) (gTu 2 (gsCons (gN 9) (gsCons (gN 12) gsNil))) bYes cE_share_pieces_1 [9, 12]))))
    (sSeq (sPar [4, 5] (mD (eFrz (lCB listL (aCons (eVar 1) aNil))) (mL (lLst aNil) mNil)))
    (sSeq (sWhile (fun _ => 7) wC_share_pieces_2 wB_share_pieces_2)
    (fun ρ W => (sRet (eVar 5)) (frzS 5 ρ) W))))
def F_share_pieces := runP 14 B_share_pieces

def cC_payment_at_1 : SB :=
    (bNot (bOf (eCall 2 F_is_less (aCons (eVar 1) (aCons (eBin ixD (eVar 6) (eC (.int 0))) aNil)))))
def cE_payment_at_1 : SE :=
    (eVar 6)
def B_payment_at : SS :=
    (sSeq (sAsg 2 (eFrz (lComp (iSeq (eVar 0)) (gN 6) cC_payment_at_1 cE_payment_at_1 [6])))
    (sSeq (sAsgG (gTu 3 (gsCons (gN 3) (gsCons (gN 4) (gsCons (gN 5) gsNil)))) (eBin ixD (eVar 2) (eUn negD (eC (.int 1)))))
    (sRet (eCall 2 F_plus (aCons (eVar 4) (aCons (eCall 2 F_product (aCons (eVar 5) (aCons (eCall 2 F_minus (aCons (eVar 1) (aCons (eVar 3) aNil))) aNil))) aNil))))))
def F_payment_at := runP 7 B_payment_at

def cE__law_ladder_1 : SE :=
    (eCallT 2 F__law_rung (eVar 0) 1 (aCons (eVar 3) (aCons (eCallT 1 F__law_draw (eVar 0) 1 (aCons (eC (.int 2)) aNil)) aNil)))
def B__law_ladder : SS :=
    (sSeq (sAsg 3 (eBin addD (eC (.int 1)) (eCallT 1 F__law_draw (eVar 0) 1 (aCons (eVar 2) aNil))))
    (sSeq (sAsg 4 (eFrz (lComp (iRng (aCons (eCallT 1 F__law_draw (eVar 0) 1 (aCons (eC (.int 4)) aNil)) aNil)) (gN 5) bYes cE__law_ladder_1 [5])))
    (sRet (eTup (aCons (eVar 3) (aCons (eBin addD (eCB tupleD (aCons (eVar 4) aNil)) (eTup (aCons (eCallT 2 F__law_rung (eVar 0) 1 (aCons (eVar 3) (aCons (eC (.int 2)) aNil))) aNil))) aNil))))))
def F__law_ladder := runT 6 B__law_ladder


def B_rung_pieces : SS :=
    (sSeq (sIf (bOf (eBin eqD (eBin ixD (eVar 1) (eC (.int 0))) (eC (.str "fixed")))) (sRet (eCall 2 F_fixed_pieces (aCons (eVar 0) (aCons (eBin ixD (eVar 1) (eC (.int 1))) aNil)))) sPass)
    (sRet (eCall 3 F_share_pieces (aCons (eVar 0) (aCons (eBin ixD (eVar 1) (eC (.int 1))) (aCons (eBin ixD (eVar 1) (eC (.int 2))) aNil))))))
def F_rung_pieces := runP 2 B_rung_pieces

def cE_pieces_of_2 : SE :=
    (eTup (aCons (eVar 2) (aCons (eVar 4) (aCons (eVar 5) aNil))))
def lB_pieces_of_1 : SS :=
    (sSeq (sExt 1 (lComp (iSeq (eCall 2 F_rung_pieces (aCons (eBin ixD (eVar 0) (eC (.int 0))) (aCons (eVar 3) aNil)))) (gTu 2 (gsCons (gN 4) (gsCons (gN 5) gsNil))) bYes cE_pieces_of_2 [4, 5]))
    (sIf (bOf (eCall 1 F_is_endless (aCons (eVar 3) aNil))) (fun ρ W => (sRet (eVar 1)) (frzS 1 ρ) W) sPass))
def B_pieces_of : SS :=
    (sSeq (sOwn 1 (lLst aNil))
    (sSeq (sFor (iEnum' (aCons (eBin ixD (eVar 0) (eC (.int 1))) aNil)) (gTu 2 (gsCons (gN 2) (gsCons (gN 3) gsNil))) lB_pieces_of_1)
    (fun ρ W => (sRet (eVar 1)) (frzS 1 ρ) W)))
def F_pieces_of := runP 6 B_pieces_of

def lB_found_bends_1 : SS :=
    (sSeq (sIf (bOr (bOf (eBin eqD (eBor 2) (eFrz (lLst aNil)))) (bOf (eBin neD (eBin ixD (eBin ixD (eBor 2) (eUn negD (eC (.int 1)))) (eC (.int 2))) (eBin ixD (eVar 7) (eVar 1))))) (sApp 2 (eTup (aCons (eVar 3) (aCons (eVar 4) (aCons (eBin ixD (eVar 7) (eVar 1)) aNil))))) sPass)
    (sIf (bOf (eBin isNotD (eVar 6) (eC .none))) (sSeq (sAsg 3 (eCall 2 F_plus (aCons (eVar 3) (aCons (eVar 6) aNil))))
    (sAsg 4 (eCall 2 F_plus (aCons (eVar 4) (aCons (eCall 2 F_product (aCons (eVar 6) (aCons (eBin ixD (eVar 7) (eVar 1)) aNil))) aNil))))) sPass))
def B_found_bends : SS :=
    (sSeq (sPar [2, 3, 4] (mL (lLst aNil) (mD (eC (PyData.tuple [.int 0, .int 1])) (mD (eC (PyData.tuple [.int 0, .int 1])) mNil))))
    (sSeq (sFor (iSeq (eCall 1 F_pieces_of (aCons (eVar 0) aNil))) (gTu 3 (gsCons (gN 5) (gsCons (gN 6) (gsCons (gN 7) gsNil)))) lB_found_bends_1)
    (fun ρ W => (sRet (eVar 2)) (frzS 2 ρ) W)))
def F_found_bends := runP 8 B_found_bends

def cE_all_payments_1 : SE :=
    (eCall 2 F_payment_at (aCons (eCall 2 F_found_bends (aCons (eVar 0) (aCons (eVar 2) aNil))) (aCons (eVar 1) aNil)))
def B_all_payments : SS :=
    (sRet (eCB tupleD (aCons (eFrz (lComp (iRng (aCons (eBin ixD (eVar 0) (eC (.int 0))) aNil)) (gN 2) bYes cE_all_payments_1 [2])) aNil)))
def F_all_payments := runP 3 B_all_payments

def B_pay : SS :=
    (sSeq (sExpr (eCall 1 F_check_ladder (aCons (eVar 0) aNil)))
    (sSeq (sExpr (eCall 1 F_check_amount (aCons (eVar 1) aNil)))
    (sRet (eCall 2 F_all_payments (aCons (eVar 0) (aCons (eVar 1) aNil))))))
def F_pay := runP 2 B_pay

def cE_pay_next_1 : SE :=
    (eCall 2 F_minus (aCons (eVar 5) (aCons (eVar 6) aNil)))
def B_pay_next : SS :=
    (sSeq (sExpr (eCall 1 F_check_ladder (aCons (eVar 0) aNil)))
    (sSeq (sExpr (eCall 1 F_check_amount (aCons (eVar 1) aNil)))
    (sSeq (sExpr (eCall 1 F_check_amount (aCons (eVar 2) aNil)))
    (sSeq (sPar [3, 4] (mD (eCall 2 F_all_payments (aCons (eVar 0) (aCons (eVar 1) aNil))) (mD (eCall 2 F_all_payments (aCons (eVar 0) (aCons (eCall 2 F_plus (aCons (eVar 1) (aCons (eVar 2) aNil))) aNil))) mNil)))
    (sRet (eCB tupleD (aCons (eFrz (lComp (iZip' (aCons (eVar 4) (aCons (eVar 3) aNil))) (gTu 2 (gsCons (gN 5) (gsCons (gN 6) gsNil))) bYes cE_pay_next_1 [5, 6])) aNil)))))))
def F_pay_next := runP 7 B_pay_next

def B_check_holder : SS :=
    (sIf (bNot (bOf (eCall 3 F_is_between (aCons (eVar 1) (aCons (eC (.int 0)) (aCons (eBin subD (eBin ixD (eVar 0) (eC (.int 0))) (eC (.int 1))) aNil)))))) sNever sPass)
def F_check_holder := runP 2 B_check_holder

def B_bends : SS :=
    (sSeq (sExpr (eCall 1 F_check_ladder (aCons (eVar 0) aNil)))
    (sSeq (sExpr (eCall 2 F_check_holder (aCons (eVar 0) (aCons (eVar 1) aNil))))
    (sRet (eCB tupleD (aCons (eCall 2 F_found_bends (aCons (eVar 0) (aCons (eVar 1) aNil))) aNil)))))
def F_bends := runP 2 B_bends

def cC_rate_after_1 : SB :=
    (bNot (bOf (eCall 2 F_is_less (aCons (eVar 2) (aCons (eBin ixD (eVar 3) (eC (.int 0))) aNil)))))
def cE_rate_after_1 : SE :=
    (eVar 3)
def B_rate_after : SS :=
    (sSeq (sExpr (eCall 1 F_check_ladder (aCons (eVar 0) aNil)))
    (sSeq (sExpr (eCall 2 F_check_holder (aCons (eVar 0) (aCons (eVar 1) aNil))))
    (sSeq (sExpr (eCall 1 F_check_amount (aCons (eVar 2) aNil)))
    (sRet (eBin ixD (eBin ixD (eFrz (lComp (iSeq (eCall 2 F_found_bends (aCons (eVar 0) (aCons (eVar 1) aNil)))) (gN 3) cC_rate_after_1 cE_rate_after_1 [3])) (eUn negD (eC (.int 1)))) (eC (.int 2)))))))
def F_rate_after := runP 4 B_rate_after

def lB_least_amount_1 : SS :=
    (sSeq (sIf (bNot (bOf (eCall 2 F_is_less (aCons (eBin ixD (eVar 5) (eC (.int 1))) (aCons (eVar 2) aNil))))) (sRet (eBin ixD (eVar 5) (eC (.int 0)))) sPass)
    (sSeq (sAsg 6 (eBin eqD (eBin addD (eVar 4) (eC (.int 1))) (eCB lenD (aCons (eVar 3) aNil))))
    (sIf (bAnd (bOf (eBin neD (eBin ixD (eVar 5) (eC (.int 2))) (eC (PyData.tuple [.int 0, .int 1])))) (bOr (bOf (eVar 6)) (bNot (bOf (eCall 2 F_is_less (aCons (eBin ixD (eBin ixD (eVar 3) (eBin addD (eVar 4) (eC (.int 1)))) (eC (.int 1))) (aCons (eVar 2) aNil))))))) (sRet (eCall 2 F_plus (aCons (eBin ixD (eVar 5) (eC (.int 0))) (aCons (eCall 2 F_quotient (aCons (eCall 2 F_minus (aCons (eVar 2) (aCons (eBin ixD (eVar 5) (eC (.int 1))) aNil))) (aCons (eBin ixD (eVar 5) (eC (.int 2))) aNil))) aNil)))) sPass)))
def B_least_amount : SS :=
    (sSeq (sExpr (eCall 1 F_check_ladder (aCons (eVar 0) aNil)))
    (sSeq (sExpr (eCall 2 F_check_holder (aCons (eVar 0) (aCons (eVar 1) aNil))))
    (sSeq (sIf (bNot (bOf (eCall 1 F_is_amount (aCons (eVar 2) aNil)))) sNever sPass)
    (sSeq (sAsg 3 (eCall 2 F_found_bends (aCons (eVar 0) (aCons (eVar 1) aNil))))
    (sSeq (sFor (iEnum' (aCons (eVar 3) aNil)) (gTu 2 (gsCons (gN 4) (gsCons (gN 5) gsNil))) lB_least_amount_1)
    (sRet (eC .none)))))))
def F_least_amount := runP 7 B_least_amount

def B_check_like : SS :=
    (sIf (bOf (eBin neD (eBin ixD (eVar 0) (eC (.int 0))) (eBin ixD (eVar 1) (eC (.int 0))))) sNever sPass)
def F_check_like := runP 2 B_check_like

def B_sign_of : SS :=
    (sRet (eBin subD (eCB intD (aCons (eBin gtD (eBin ixD (eVar 0) (eC (.int 0))) (eC (.int 0))) aNil)) (eCB intD (aCons (eBin ltD (eBin ixD (eVar 0) (eC (.int 0))) (eC (.int 0))) aNil))))
def F_sign_of := runP 1 B_sign_of

def cC_rate_at_1 : SB :=
    (bNot (bOf (eCall 2 F_is_less (aCons (eVar 1) (aCons (eBin ixD (eVar 2) (eC (.int 0))) aNil)))))
def cE_rate_at_1 : SE :=
    (eVar 2)
def B_rate_at : SS :=
    (sRet (eBin ixD (eBin ixD (eFrz (lComp (iSeq (eVar 0)) (gN 2) cC_rate_at_1 cE_rate_at_1 [2])) (eUn negD (eC (.int 1)))) (eC (.int 2))))
def F_rate_at := runP 3 B_rate_at

def cC_in_order_2 : SB :=
    (bOf (eCall 2 F_is_less (aCons (eVar 4) (aCons (eVar 2) aNil))))
def cE_in_order_2 : SE :=
    (eVar 4)
def lB_in_order_1 : SS :=
    (sSeq (sAsg 3 (eCB lenD (aCons (eFrz (lComp (iSeq (eVar 1)) (gN 4) cC_in_order_2 cE_in_order_2 [4])) aNil)))
    (sIf (bOr (bOf (eBin eqD (eVar 3) (eCB lenD (aCons (eVar 1) aNil)))) (bOf (eBin neD (eBin ixD (eVar 1) (eVar 3)) (eVar 2)))) (sAsg 1 (eBin addD (eBin addD (eSlice (eVar 1) oNone (oSome (eVar 3))) (eFrz (lLst (aCons (eVar 2) aNil)))) (eSlice (eVar 1) (oSome (eVar 3)) oNone))) sPass))
def B_in_order : SS :=
    (sSeq (sAsg 1 (eFrz (lLst aNil)))
    (sSeq (sFor (iSeq (eVar 0)) (gN 2) lB_in_order_1)
    (sRet (eVar 1))))
def F_in_order := runP 5 B_in_order



def B_check_both : SS :=
    (sSeq (sExpr (eCall 1 F_check_ladder (aCons (eVar 0) aNil)))
    (sExpr (eCall 1 F_check_ladder (aCons (eVar 1) aNil))))
def F_check_both := runP 2 B_check_both

def cE_found_signs_1 : SE :=
    (eBin ixD (eVar 12) (eC (.int 0)))
def lB_found_signs_3 : SS :=
    (sIf (bOr (bOf (eBin eqD (eBor 6) (eFrz (lLst aNil)))) (bOf (eBin neD (eBin ixD (eBin ixD (eBor 6) (eUn negD (eC (.int 1)))) (eC (.int 1))) (eBin ixD (eVar 12) (eC (.int 1)))))) (sApp 6 (eVar 12)) sPass)
def lB_found_signs_2 : SS :=
    (sSeq (sAsg 9 (eCall 2 F_minus (aCons (eCall 2 F_payment_at (aCons (eVar 4) (aCons (eVar 8) aNil))) (aCons (eCall 2 F_payment_at (aCons (eVar 3) (aCons (eVar 8) aNil))) aNil))))
    (sSeq (sAsg 10 (eCall 2 F_minus (aCons (eCall 2 F_rate_at (aCons (eVar 4) (aCons (eVar 8) aNil))) (aCons (eCall 2 F_rate_at (aCons (eVar 3) (aCons (eVar 8) aNil))) aNil))))
    (sSeq (sOwn 11 (lLst (aCons (eTup (aCons (eVar 8) (aCons (eIf (bOf (eBin neD (eVar 9) (eC (PyData.tuple [.int 0, .int 1])))) (eCall 1 F_sign_of (aCons (eVar 9) aNil)) (eCall 1 F_sign_of (aCons (eVar 10) aNil))) aNil))) aNil)))
    (sSeq (sIf (bOf (eBin ltD (eBin mulD (eCall 1 F_sign_of (aCons (eVar 9) aNil)) (eCall 1 F_sign_of (aCons (eVar 10) aNil))) (eC (.int 0)))) (sSeq (sAsg 13 (eCall 2 F_plus (aCons (eVar 8) (aCons (eCall 2 F_quotient (aCons (eTup (aCons (eCB absD (aCons (eBin ixD (eVar 9) (eC (.int 0))) aNil)) (aCons (eBin ixD (eVar 9) (eC (.int 1))) aNil))) (aCons (eTup (aCons (eCB absD (aCons (eBin ixD (eVar 10) (eC (.int 0))) aNil)) (aCons (eBin ixD (eVar 10) (eC (.int 1))) aNil))) aNil))) aNil))))
    (sIf (bOr (bOf (eBin eqD (eBin addD (eVar 7) (eC (.int 1))) (eCB lenD (aCons (eVar 5) aNil)))) (bOf (eCall 2 F_is_less (aCons (eVar 13) (aCons (eBin ixD (eVar 5) (eBin addD (eVar 7) (eC (.int 1)))) aNil))))) (sApp 11 (eTup (aCons (eVar 13) (aCons (eCall 1 F_sign_of (aCons (eVar 10) aNil)) aNil)))) sPass)) sPass)
    (fun ρ W => (sFor (iSeq (eVar 11)) (gN 12) lB_found_signs_3) (frzS 11 ρ) W)))))
def B_found_signs : SS :=
    (sSeq (sPar [3, 4] (mD (eCall 2 F_found_bends (aCons (eVar 0) (aCons (eVar 2) aNil))) (mD (eCall 2 F_found_bends (aCons (eVar 1) (aCons (eVar 2) aNil))) mNil)))
    (sSeq (sAsg 5 (eCall 1 F_in_order (aCons (eFrz (lComp (iSeq (eBin addD (eVar 3) (eVar 4))) (gN 12) bYes cE_found_signs_1 [12])) aNil)))
    (sSeq (sOwn 6 (lLst aNil))
    (sSeq (sFor (iEnum' (aCons (eVar 5) aNil)) (gTu 2 (gsCons (gN 7) (gsCons (gN 8) gsNil))) lB_found_signs_2)
    (fun ρ W => (sRet (eVar 6)) (frzS 6 ρ) W)))))
def F_found_signs := runP 14 B_found_signs

def cC_first_parting_2 : SB :=
    (bOf (eBin neD (eVar 5) (eC (.int 0))))
def cE_first_parting_2 : SE :=
    (eVar 4)
def lB_first_parting_1 : SS :=
    (sExt 2 (lComp (iSeq (eCall 3 F_found_signs (aCons (eVar 0) (aCons (eVar 1) (aCons (eVar 3) aNil))))) (gTu 2 (gsCons (gN 4) (gsCons (gN 5) gsNil))) cC_first_parting_2 cE_first_parting_2 [4, 5]))
def B_first_parting : SS :=
    (sSeq (sOwn 2 (lLst aNil))
    (sSeq (sFor (iRng (aCons (eBin ixD (eVar 0) (eC (.int 0))) aNil)) (gN 3) lB_first_parting_1)
    (fun ρ W => (sRet (eIf (bOf (eBin neD (eBor 2) (eFrz (lLst aNil)))) (eBin ixD (eCall 1 F_in_order (aCons (eVar 2) aNil)) (eC (.int 0))) (eC .none))) (frzS 2 ρ) W)))
def F_first_parting := runP 6 B_first_parting


def B_are_alike : SS :=
    (sSeq (sExpr (eCall 2 F_check_both (aCons (eVar 0) (aCons (eVar 1) aNil))))
    (sSeq (sExpr (eCall 2 F_check_like (aCons (eVar 0) (aCons (eVar 1) aNil))))
    (sRet (eBin isD (eCall 2 F_first_parting (aCons (eVar 0) (aCons (eVar 1) aNil))) (eC .none)))))
def F_are_alike := runP 2 B_are_alike

def B_parting_after : SS :=
    (sSeq (sExpr (eCall 2 F_check_both (aCons (eVar 0) (aCons (eVar 1) aNil))))
    (sSeq (sExpr (eCall 2 F_check_like (aCons (eVar 0) (aCons (eVar 1) aNil))))
    (sRet (eCall 2 F_first_parting (aCons (eVar 0) (aCons (eVar 1) aNil))))))
def F_parting_after := runP 2 B_parting_after



def B_gains : SS :=
    (sSeq (sExpr (eCall 2 F_check_both (aCons (eVar 0) (aCons (eVar 1) aNil))))
    (sSeq (sExpr (eCall 2 F_check_holder (aCons (eVar 0) (aCons (eVar 2) aNil))))
    (sSeq (sExpr (eCall 2 F_check_like (aCons (eVar 0) (aCons (eVar 1) aNil))))
    (sRet (eCB tupleD (aCons (eCall 3 F_found_signs (aCons (eVar 0) (aCons (eVar 1) (aCons (eVar 2) aNil)))) aNil))))))
def F_gains := runP 3 B_gains

def cC_reached_1 : SB :=
    (bOf (eCall 1 F_is_endless (aCons (eVar 2) aNil)))
def cE_reached_1 : SE :=
    (eVar 1)
def B_reached : SS :=
    (sSeq (sExpr (eCall 1 F_check_ladder (aCons (eVar 0) aNil)))
    (sRet (eBin addD (eBin ixD (eFrz (lComp (iEnum' (aCons (eBin ixD (eVar 0) (eC (.int 1))) aNil)) (gTu 2 (gsCons (gN 1) (gsCons (gN 2) gsNil))) cC_reached_1 cE_reached_1 [1, 2])) (eC (.int 0))) (eC (.int 1)))))
def F_reached := runP 3 B_reached

def cE_needed_for_2 : SE :=
    (eBin ixD (eVar 4) (eC (.int 1)))
def lB_needed_for_1 : SS :=
    (sSeq (sIf (bOf (eCall 1 F_is_endless (aCons (eVar 3) aNil))) (sRet (eC .none)) sPass)
    (sAsg 2 (eBin addD (eVar 2) (eCB sumD (aCons (eFrz (lComp (iSeq (eBin ixD (eVar 3) (eUn negD (eC (.int 1))))) (gN 4) bYes cE_needed_for_2 [4])) aNil)))))
def B_needed_for : SS :=
    (sSeq (sExpr (eCall 1 F_check_ladder (aCons (eVar 0) aNil)))
    (sSeq (sIf (bNot (bOf (eCall 3 F_is_between (aCons (eVar 1) (aCons (eC (.int 0)) (aCons (eBin subD (eCB lenD (aCons (eBin ixD (eVar 0) (eC (.int 1))) aNil)) (eC (.int 1))) aNil)))))) sNever sPass)
    (sSeq (sAsg 2 (eC (.int 0)))
    (sSeq (sFor (iSeq (eSlice (eBin ixD (eVar 0) (eC (.int 1))) oNone (oSome (eBin addD (eVar 1) (eC (.int 1)))))) (gN 3) lB_needed_for_1)
    (sRet (eVar 2))))))
def F_needed_for := runP 5 B_needed_for

end Sx

namespace Sx
open PySem PySem.Spec PyProof.Rows L2
/-! ### evaluation of the semantic functions, for simp -/
section
variable {ρ : Sl} {W : Tw} {i n : Nat} {e e1 e2 a b c k : SE} {as f : SA} {x : Dt}
@[simp] theorem eVar_s : eVar i ρ W = (match ρ[i]? with | some (some (.d x)) => .ok (x, W) | _ => .bad) := rfl
@[simp] theorem eBor_s : eBor i ρ W = (match ρ[i]? with | some (some (.d x)) => .ok (x, W) | some (some (.own xs)) => .ok (.list xs, W) | _ => .bad) := rfl
@[simp] theorem eC_s : eC x ρ W = .ok (x, W) := rfl
@[simp] theorem eBin_s {g} : eBin g a b ρ W = (a ρ W).bind fun p => (b ρ p.2).bind fun q => ofO (g p.1 q.1) q.2 := rfl
@[simp] theorem eUn_s {g} : eUn g a ρ W = (a ρ W).bind fun p => ofO (g p.1) p.2 := rfl
@[simp] theorem aNil_s : aNil ρ W = .ok ([], W) := rfl
@[simp] theorem aCons_s : aCons e as ρ W = (e ρ W).bind fun p => (as ρ p.2).bind fun q => .ok (p.1 :: q.1, q.2) := rfl
@[simp] theorem eTup_s : eTup as ρ W = (as ρ W).bind fun p => if p.1.length ≤ 100000 then .ok (.tuple p.1, p.2) else .bad := rfl
@[simp] theorem lLst_s : lLst as ρ W = (as ρ W).bind fun p => if p.1.length ≤ 100000 then .ok p else .bad := rfl
@[simp] theorem eFrz_s : eFrz f ρ W = (f ρ W).bind fun p => .ok (.list p.1, p.2) := rfl
@[simp] theorem eCB_s {g} : eCB g as ρ W = (as ρ W).bind fun p => ofO (g p.1) p.2 := rfl
@[simp] theorem lCB_s {g} : lCB g as ρ W = (as ρ W).bind fun p => ofO (g p.1) p.2 := rfl
@[simp] theorem bOf_s : bOf e ρ W = (e ρ W).bind fun p => ofO (asB p.1) p.2 := rfl
@[simp] theorem bAnd_s {a b : SB} : bAnd a b ρ W = (a ρ W).bind fun p => if p.1 = true then b ρ p.2 else .ok (false, p.2) := rfl
@[simp] theorem bOr_s {a b : SB} : bOr a b ρ W = (a ρ W).bind fun p => if p.1 = true then .ok (true, p.2) else b ρ p.2 := rfl
@[simp] theorem bNot_s {a : SB} : bNot a ρ W = (a ρ W).bind fun p => .ok (!p.1, p.2) := rfl
@[simp] theorem eAnd_s : eAnd a b ρ W = (bOf a ρ W).bind fun p => if p.1 = true then b ρ p.2 else .ok (.bool false, p.2) := rfl
@[simp] theorem eNot_s : eNot a ρ W = (bOf a ρ W).bind fun p => .ok (.bool (!p.1), p.2) := rfl
@[simp] theorem eIf_s {c : SB} : eIf c a b ρ W = (c ρ W).bind fun p => if p.1 = true then a ρ p.2 else b ρ p.2 := rfl
@[simp] theorem eChain_s {g g'} : eChain g g' a b c ρ W = (a ρ W).bind fun p => (b ρ p.2).bind fun q => (ofO ((g p.1 q.1).bind asB) q.2).bind fun k =>
  if k.1 = true then (c ρ q.2).bind fun r => ofO (g' q.1 r.1) r.2 else .ok (.bool false, q.2) := rfl
@[simp] theorem ofO_some {α : Type} {a : α} : ofO (some a) W = .ok (a, W) := rfl
@[simp] theorem ofO_none {α : Type} : ofO (none : Option α) W = .bad := rfl
@[simp] theorem asB_bool {b : Bool} : asB (.bool b) = some b := rfl
@[simp] theorem eSlice_s {lo hi : SO} : eSlice e lo hi ρ W = (e ρ W).bind fun p => (lo ρ p.2).bind fun l => (hi ρ l.2).bind fun h => ofO (sliceD p.1 l.1 h.1) h.2 := rfl
@[simp] theorem oNone_s : oNone ρ W = .ok (none, W) := rfl
@[simp] theorem oSome_s : oSome e ρ W = (e ρ W).bind fun p => ofO ((asI p.1).map some) p.2 := rfl
@[simp] theorem asI_int {i : Int} : asI (.int i) = some i := rfl
@[simp] theorem lBin_s {g} : lBin g a b ρ W = (a ρ W).bind fun p => (b ρ p.2).bind fun q => ofO (g p.1 q.1) q.2 := rfl
@[simp] theorem eCall_s {Fs} : eCall n Fs as ρ W = (as ρ W).bind fun p => if p.1.length = n then resT (Fs p.1) p.2 else .bad := rfl
@[simp] theorem lCall_s {Fs} : lCall n Fs as ρ W = (as ρ W).bind fun p => if p.1.length = n then resT (Fs p.1) p.2 else .bad := rfl
@[simp] theorem resT_ok {α : Type} {r : α} : resT (.ok r) W = .ok (r, W) := rfl
@[simp] theorem twnT_ok {r : Dt × List Dt} : twnT (.ok r) = .ok (r.1, some r.2) := rfl
@[simp] theorem eCallT_s {Fs} : eCallT n Fs e i as ρ W = (e ρ W).bind fun p => match ρ[i]? with
  | some (some .town) => (as ρ p.2).bind fun q => match q.2 with
    | some ws => if q.1.length = n then twnT (Fs (p.1 :: q.1) ws) else .bad
    | none => .bad
  | _ => .bad := rfl
@[simp] theorem iSeq_s : iSeq e ρ W = (e ρ W).bind fun p => ofO (seqOf p.1) p.2 := rfl
@[simp] theorem seqOf_list {ds} : seqOf (.list ds) = some ds := rfl
@[simp] theorem seqOf_tuple {ds} : seqOf (.tuple ds) = some ds := rfl
@[simp] theorem iRng_s : iRng as ρ W = (as ρ W).bind fun p => ofO (rngOf p.1) p.2 := rfl
@[simp] theorem iEnum_s : iEnum' as ρ W = (as ρ W).bind fun p => ofO (enumOf p.1) p.2 := rfl
@[simp] theorem iZip_s : iZip' as ρ W = (as ρ W).bind fun p => ofO (zipOf p.1) p.2 := rfl
@[simp] theorem enumOf_list {ds} : enumOf [.list ds] = some (enumD 0 ds) := rfl
@[simp] theorem enumOf_tuple {ds} : enumOf [.tuple ds] = some (enumD 0 ds) := rfl
@[simp] theorem zipOf_ll {a b} : zipOf [.list a, .list b] = some (zipD a b) := rfl
@[simp] theorem zipOf_lt {a b} : zipOf [.list a, .tuple b] = some (zipD a b) := rfl
@[simp] theorem zipOf_tl {a b} : zipOf [.tuple a, .list b] = some (zipD a b) := rfl
@[simp] theorem zipOf_tt {a b} : zipOf [.tuple a, .tuple b] = some (zipD a b) := rfl
@[simp] theorem gN_s {d : Dt} : gN i d ρ = if i < ρ.length then some (ρ.set i (some (.d d))) else none := rfl
@[simp] theorem gsNil_s : gsNil [] ρ = some ρ := rfl
@[simp] theorem gsCons_s {g : SG} {gs : SGs} {d : Dt} {ds} : gsCons g gs (d :: ds) ρ = (g d ρ).bind (gs ds) := rfl
@[simp] theorem gTu_s {gs : SGs} {ds : List Dt} : gTu n gs (.tuple ds) ρ = if ds.length = n then gs ds ρ else none := rfl
@[simp] theorem lComp_s {it : SA} {g : SG} {c : SB} {vs} : lComp it g c e vs ρ W = (it ρ W).bind fun p => if p.1.length ≤ 100000 ∧ wipeOk ρ vs = true then cL g c e (wipeS ρ vs) p.1 p.2 else .bad := rfl
@[simp] theorem bYes_s : bYes ρ W = .ok (true, W) := rfl
@[simp] theorem cL_nil {g : SG} {c : SB} : cL g c e ρ [] W = .ok ([], W) := rfl
@[simp] theorem wipeS_nil : wipeS ρ [] = ρ := rfl
@[simp] theorem wipeS_cons {v vs} : wipeS ρ (v :: vs) = (wipeS ρ vs).set v none := rfl
@[simp] theorem sPass_s : sPass ρ W = .nx ρ W := rfl
@[simp] theorem sSeq_s {a b : SS} : sSeq a b ρ W = (match a ρ W with | .nx ρ1 W1 => b ρ1 W1 | r => r) := rfl
@[simp] theorem sExpr_s : sExpr e ρ W = rOut (e ρ W) fun _ W1 => .nx ρ W1 := rfl
@[simp] theorem sRet_s : sRet e ρ W = rOut (e ρ W) fun d W1 => .rt (.d d) W1 := rfl
@[simp] theorem sRetL_s : sRetL f ρ W = rOut (f ρ W) fun ds W1 => .rt (.own ds) W1 := rfl
@[simp] theorem sAsg_s : sAsg i e ρ W = rOut (e ρ W) fun d W1 => if i < ρ.length then .nx (ρ.set i (some (.d d))) W1 else .bad := rfl
@[simp] theorem sAsgG_s {g : SG} : sAsgG g e ρ W = rOut (e ρ W) fun d W1 => match g d ρ with | some ρ' => .nx ρ' W1 | none => .bad := rfl
@[simp] theorem sOwn_s : sOwn i f ρ W = rOut (f ρ W) fun ds W1 => if i < ρ.length then .nx (ρ.set i (some (.own ds))) W1 else .bad := rfl
@[simp] theorem sTown_s : sTown i f ρ W = rOut (f ρ W) fun ds W1 => if i < ρ.length ∧ W1 = none then .nx (ρ.set i (some .town)) (some ds) else .bad := rfl
@[simp] theorem sIf_s {c : SB} {a b : SS} : sIf c a b ρ W = rOut (c ρ W) fun k W1 => if k = true then a ρ W1 else b ρ W1 := rfl
@[simp] theorem sFor_s {it : SA} {g : SG} {body : SS} : sFor it g body ρ W = rOut (it ρ W) fun ds W1 => fL g body ds ρ W1 := rfl
@[simp] theorem fL_nil {g : SG} {body : SS} : fL g body [] ρ W = .nx ρ W := rfl
@[simp] theorem fL_cons {g : SG} {body : SS} {d ds} : fL g body (d :: ds) ρ W = (match g d ρ with | none => .bad | some ρ1 => match body ρ1 W with | .nx ρ2 W2 => fL g body ds ρ2 W2 | r => r) := rfl
@[simp] theorem sApp_s : sApp i e ρ W = (match ρ[i]? with | some (some (.own xs)) => rOut (e ρ W) fun d W1 => if xs.length < 100000 then .nx (ρ.set i (some (.own (xs ++ [d])))) W1 else .bad | _ => .bad) := rfl
@[simp] theorem sExt_s : sExt i f ρ W = (match ρ[i]? with | some (some (.own xs)) => rOut (f ρ W) fun ds W1 => if xs.length + ds.length ≤ 100000 then .nx (ρ.set i (some (.own (xs ++ ds)))) W1 else .bad | _ => .bad) := rfl
@[simp] theorem sSet_s : sSet i k e ρ W = (match ρ[i]? with | some (some (.own xs)) => rOut (e ρ W) fun d W1 => rOut (k ρ W1) fun kd W2 => nxO i (setD xs kd d) ρ W2 | _ => .bad) := rfl
@[simp] theorem sSetT_s : sSetT i k e ρ W = (match ρ[i]? with | some (some .town) => rOut (e ρ W) fun d W1 => rOut (k ρ W1) fun kd W2 => (match W2 with | some ws => nxT (setD ws kd d) ρ | none => .bad) | _ => .bad) := rfl
@[simp] theorem nxO_some {ys} : nxO i (some ys) ρ W = .nx (ρ.set i (some (.own ys))) W := rfl
@[simp] theorem nxT_some {ys} : nxT (some ys) ρ = .nx ρ (some ys) := rfl
@[simp] theorem eIxT_s : eIxT i k ρ W = (match ρ[i]? with | some (some .town) => (k ρ W).bind fun p => (match p.2 with | some ws => ofO (ixD (.list ws) p.1) p.2 | none => .bad) | _ => .bad) := rfl
@[simp] theorem mNil_s : mNil ρ W = .ok ([], W) := rfl
@[simp] theorem mD_s {m : SM} : mD e m ρ W = (e ρ W).bind fun p => (m ρ p.2).bind fun q => .ok (.d p.1 :: q.1, q.2) := rfl
@[simp] theorem mL_s {m : SM} : mL f m ρ W = (f ρ W).bind fun p => (m ρ p.2).bind fun q => .ok (.own p.1 :: q.1, q.2) := rfl
@[simp] theorem mK_s {f : SK} {m : SM} : mK f m ρ W = (f ρ W).bind fun p => (m ρ p.2).bind fun q => .ok (.dk p.1 :: q.1, q.2) := rfl
@[simp] theorem setM_nil : setM [] [] ρ = some ρ := rfl
@[simp] theorem setM_cons {is sv svs} : setM (i :: is) (sv :: svs) ρ = if i < ρ.length then setM is svs (ρ.set i (some sv)) else none := rfl
@[simp] theorem sPar_s {is} {m : SM} : sPar is m ρ W = rOut (m ρ W) fun svs W1 => match setM is svs ρ with | some ρ' => .nx ρ' W1 | none => .bad := rfl
@[simp] theorem kDict_s : kDict e ρ W = (e ρ W).bind fun p => ofO (dictOf p.1) p.2 := rfl
@[simp] theorem eDin_s : eDin i k ρ W = (k ρ W).bind fun p => ofO ((inDk ρ i p.1).map PyData.bool) p.2 := rfl
@[simp] theorem eDnin_s : eDnin i k ρ W = (k ρ W).bind fun p => ofO ((inDk ρ i p.1).map fun b => PyData.bool (!b)) p.2 := rfl
@[simp] theorem eDget_s : eDget i k ρ W = (match dkAt ρ i with | some kvs => (k ρ W).bind fun p => ofO (getDk kvs p.1) p.2 | none => .bad) := rfl
@[simp] theorem iDk_s : iDk i ρ W = (match ρ[i]? with | some (some (.fd kvs)) => .ok (kvs.map (fun kv => PyData.int kv.1), W) | _ => .bad) := rfl
@[simp] theorem lLock_s : lLock i f ρ W = (match ρ[i]? with | some (some (.dk kvs)) => nox (f (ρ.set i (some (.fd kvs))) W) | _ => .bad) := rfl
@[simp] theorem sDk_s {f : SK} : sDk i f ρ W = rOut (f ρ W) fun kvs W1 => if i < ρ.length then .nx (ρ.set i (some (.dk kvs))) W1 else .bad := rfl
@[simp] theorem dkAt_s : dkAt ρ i = (match ρ[i]? with | some (some (.dk kvs)) => some kvs | some (some (.fd kvs)) => some kvs | _ => none) := rfl
@[simp] theorem inDk_s {d : Dt} : inDk ρ i d = (match dkAt ρ i, d with | some kvs, .int k => some (valD kvs k).isSome | _, _ => none) := rfl
@[simp] theorem getDk_int {kvs} {k : Int} : getDk kvs (.int k) = valD kvs k := rfl
@[simp] theorem frzS_s : frzS i ρ = (match ρ[i]? with | some (some (.own xs)) => ρ.set i (some (.d (.list xs))) | _ => ρ) := rfl
@[simp] theorem runP_s {m : Nat} {B : SS} {ds : List Dt} : runP m B ds = (match B (start0 m ds) none with | .rt (.d x) _ => .ok x | .nx _ _ => .ok .none | .exc c => .exc c | _ => .bad) := rfl
@[simp] theorem runT_s {m : Nat} {B : SS} {ds ws : List Dt} : runT m B ds ws = (match B (startT m ds) (some ws) with | .rt (.d x) (some ws') => .ok (x, ws') | .nx _ (some ws') => .ok (.none, ws') | .exc c => .exc c | _ => .bad) := rfl
@[simp] theorem runL_s {m : Nat} {B : SS} {ds : List Dt} : runL m B ds = (match B (start0 m ds) none with | .rt (.own x) _ => .ok x | .exc c => .exc c | _ => .bad) := rfl
@[simp] theorem addD_i {a b : Int} : addD (.int a) (.int b) = some (.int (a + b)) := rfl
@[simp] theorem subD_i {a b : Int} : subD (.int a) (.int b) = some (.int (a - b)) := rfl
@[simp] theorem mulD_i {a b : Int} : mulD (.int a) (.int b) = if mulOk a b then some (.int (a * b)) else none := rfl
@[simp] theorem fdivD_i {a b : Int} : fdivD (.int a) (.int b) = if 0 < b ∧ b.natAbs.log2 < 9000 then some (.int (a / b)) else none := rfl
@[simp] theorem modD_i {a b : Int} : modD (.int a) (.int b) = if 0 < b then some (.int (a % b)) else none := rfl
@[simp] theorem negD_i {a : Int} : negD (.int a) = some (.int (-a)) := rfl
@[simp] theorem cmpD_i {p} {a b : Int} : cmpD p (.int a) (.int b) = some (.bool (p a b)) := rfl
@[simp] theorem ixD_t {ds : List Dt} {i : Int} : ixD (.tuple ds) (.int i) = atI ds i := rfl
@[simp] theorem ixD_l {ds : List Dt} {i : Int} : ixD (.list ds) (.int i) = atI ds i := rfl
@[simp] theorem atI_0 {α : Type} {x : α} {xs : List α} : atI (x :: xs) 0 = some x := by
  unfold atI ixN
  rw [if_pos (by omega), if_pos (by simp only [List.length_cons]; omega)]
  rfl
@[simp] theorem atI_1 {α : Type} {x y : α} {xs : List α} : atI (x :: y :: xs) 1 = some y := by
  unfold atI ixN
  rw [if_pos (by omega), if_pos (by simp only [List.length_cons]; omega)]
  rfl
@[simp] theorem atI_2 {α : Type} {x y z : α} {xs : List α} : atI (x :: y :: z :: xs) 2 = some z := by
  unfold atI ixN
  rw [if_pos (by omega), if_pos (by simp only [List.length_cons]; omega)]
  rfl
theorem atI_nat {α : Type} {xs : List α} {n : Nat} (h : n < xs.length) : atI xs (n : Int) = xs[n]? := by
  unfold atI ixN
  rw [if_pos (by omega), if_pos (by omega)]
  rfl
/-- the last item -/
theorem atI_last {α : Type} {xs : List α} {x : α} : atI (xs ++ [x]) (-1) = some x := by
  unfold atI ixN
  rw [if_neg (by omega), if_pos (by simp only [List.length_append, List.length_cons, List.length_nil]; omega)]
  have : ((-1 : Int) + ((xs ++ [x]).length : Int)).toNat = xs.length := by simp only [List.length_append, List.length_cons, List.length_nil]; omega
  rw [this]
  simp
@[simp] theorem absD_i {a : Int} : absD [.int a] = some (.int a.natAbs) := by
  show some (PyData.int (if a < 0 then -a else a)) = _
  congr 2
  split <;> omega
@[simp] theorem start0_s {m : Nat} {ds : List Dt} : start0 m ds = ds.map (fun x => some (.d x)) ++ List.replicate (m - ds.length) none := rfl
@[simp] theorem startT_s {m : Nat} {d : Dt} {ds : List Dt} : startT m (d :: ds) = some (.d d) :: some .town :: (ds.map (fun x => some (.d x)) ++ List.replicate (m - (ds.length + 2)) none) := rfl
end
end Sx

namespace Sx
open PySem PySem.Spec PyProof.Rows L2
/-! ### numbers -/
theorem log2_le {n k : Nat} (h : n < 2 ^ k) : n.log2 ≤ k := by
  by_cases h0 : n = 0
  · subst h0; exact Nat.le_trans (by decide) (Nat.zero_le k)
  · exact Nat.le_of_lt ((Nat.log2_lt h0).mpr h)
theorem mulOk_of {a b : Int} {j k : Nat} (ha : a.natAbs < 2 ^ j) (hb : b.natAbs < 2 ^ k) (h : j + k < 1000000) : mulOk a b = true := by
  unfold mulOk
  have := log2_le ha
  have := log2_le hb
  exact decide_eq_true (by omega)
@[simp] theorem shaped_int {i : Int} : SeqAt.shaped (.int i) = true := by rfl
@[simp] theorem shaped_none : SeqAt.shaped .none = true := by rfl
@[simp] theorem eqD_i {a b : Int} : eqD (.int a) (.int b) = some (.bool (a == b)) := by
  unfold eqD; rw [shaped_int, shaped_int]; rfl
@[simp] theorem neD_i {a b : Int} : neD (.int a) (.int b) = some (.bool (!(a == b))) := by
  unfold neD; rw [shaped_int, shaped_int]; rfl
/-! fractions -/
def fr (q : Rat) : Dt := .tuple [.int q.num, .int q.den]
/-- few bits -/
def Bd (k : Nat) (q : Rat) : Prop := q.num.natAbs < 2 ^ k ∧ q.den < 2 ^ k
theorem mul_lt_pow {a b j k : Nat} (ha : a < 2 ^ j) (hb : b < 2 ^ k) : a * b < 2 ^ (j + k) := by
  rw [Nat.pow_add]
  exact Nat.mul_lt_mul'' ha hb
end Sx

namespace Sx
open PySem PySem.Spec PyProof.Rows L2
/-! the law's own -/
abbrev hB : SB := bOf (eBin gtD (eVar 3) (eC (.int 0)))
abbrev hS : SS := sPar [2, 3] (mD (eVar 3) (mD (eBin modD (eVar 2) (eVar 3)) mNil))
end Sx

/-! plain mathematics: pieces of rungs, levels that shares fill -/
namespace Mx
def lk {β : Type} : List (Nat × β) → Nat → Option β
  | [], _ => none
  | (k, v) :: r, h => if k = h then some v else lk r h
section
variable {β : Type}
theorem lk_mem : ∀ {A : List (Nat × β)} {h : Nat} {v : β}, lk A h = some v → (h, v) ∈ A
  | [], _, _, e => by cases e
  | (k, u) :: r, h, v, e => by
    unfold lk at e
    split at e
    · rename_i hk; cases e; subst hk; exact List.mem_cons_self ..
    · exact List.mem_cons_of_mem _ (lk_mem e)
theorem lk_none : ∀ {A : List (Nat × β)} {h : Nat}, lk A h = none ↔ ∀ p ∈ A, p.1 ≠ h
  | [], _ => by simp [lk]
  | (k, u) :: r, h => by
    unfold lk
    by_cases hk : k = h
    · simp [hk]
    · rw [if_neg hk, lk_none]; simp [hk]
end
/-! sums -/
def sm (A : List (Nat × Nat)) (f : Nat → Rat) : Rat := (A.map fun p => f p.1).sum
def wsum (A : List (Nat × Nat)) : Nat := (A.map (·.2)).sum
/-! rates, levels, pieces -/
def rt (A : List (Nat × Nat)) (W : Rat) (h : Nat) : Rat := match lk A h with
  | some w => (w : Rat) / W
  | none => 0
/-- what a holder has at a level -/
def mf (A : List (Nat × Nat)) (L : List (Nat × Rat)) (t : Rat) (h : Nat) : Rat := match lk A h with
  | none => 0
  | some w => match lk L h with
    | none => (w : Rat) * t
    | some c => if c ≤ (w : Rat) * t then c else (w : Rat) * t
abbrev Pc := Option Rat × (Nat → Rat)
def ev : List Pc → Rat → Nat → Rat
  | [], _, _ => 0
  | (none, r) :: _, x, h => r h * x
  | (some l, r) :: ps, x, h => if x ≤ l then r h * x else r h * l + ev ps (x - l) h
def lenOf (L : List (Nat × Rat)) (W : Rat) : List (Nat × Nat) → Option Rat → Option Rat
  | [], o => o
  | (h, w) :: A, o => lenOf L W A (match lk L h with
    | none => o
    | some c => some (match o with
      | none => c / ((w : Rat) / W)
      | some l => if c / ((w : Rat) / W) < l then c / ((w : Rat) / W) else l))
def lowL (L : List (Nat × Rat)) (r : Nat → Rat) (l : Rat) : List (Nat × Rat) := L.map fun p => (p.1, p.2 - l * r p.1)
def keepA (L : List (Nat × Rat)) (A : List (Nat × Nat)) : List (Nat × Nat) := A.filter fun p => match lk L p.1 with
  | none => true
  | some c => decide (c ≠ 0)
def keepL (L : List (Nat × Rat)) : List (Nat × Rat) := L.filter fun p => decide (p.2 ≠ 0)
def spGo : Nat → List (Nat × Nat) → List (Nat × Rat) → List Pc
  | 0, _, _ => []
  | n + 1, A, L => if A = [] then [] else match lenOf L (wsum A : Rat) A none with
    | none => [(none, rt A (wsum A : Rat))]
    | some l => (some l, rt A (wsum A : Rat)) :: spGo n (keepA (lowL L (rt A (wsum A : Rat)) l) A) (keepL (lowL L (rt A (wsum A : Rat)) l))
section step
variable {A : List (Nat × Nat)} {L : List (Nat × Rat)} {l : Rat}
end step
end Mx

/-! plain mathematics: how the law fills a level; whole ladders -/
namespace Mx
def ratC (C : List (Nat × Nat)) : List (Nat × Rat) := C.map fun p => (p.1, (p.2 : Rat))
end Mx

/-! plain mathematics: rungs, ladders, bends -/
namespace Mx
inductive Rung where
  | fixed (s : List (Nat × Nat))
  | shares (w c : List (Nat × Nat))
def Rung.A : Rung → List (Nat × Nat)
  | .fixed s => s
  | .shares w _ => w
def Rung.C : Rung → List (Nat × Nat)
  | .fixed s => s
  | .shares _ c => c
def Rung.endless : Rung → Bool
  | .fixed _ => false
  | .shares w c => decide (c.length < w.length)
def pcs : Rung → List Pc
  | .fixed s => [(some (wsum s : Rat), rt s (wsum s : Rat))]
  | .shares w c => spGo (w.length + 1) w (ratC c)
structure POk (n m : Nat) (ps : List (Nat × Nat)) : Prop where
  el : ∀ p ∈ ps, p.1 < n ∧ 1 ≤ p.2 ∧ p.2 ≤ m
  inc : ps.Pairwise (fun a b => a.1 < b.1)
def Rung.Ok (n : Nat) : Rung → Prop
  | .fixed s => s ≠ [] ∧ POk n 999 s
  | .shares w c => w ≠ [] ∧ POk n 20 w ∧ POk n 999 c ∧ ∀ p ∈ c, ∃ q ∈ w, q.1 = p.1
def Fin (ps : List Pc) : Prop := ∀ pc ∈ ps, pc.1 ≠ none
theorem nodup_le : ∀ {l m : List Nat}, l.Nodup → (∀ a ∈ l, a ∈ m) → l.length ≤ m.length
  | [], _, _, _ => Nat.zero_le _
  | a :: l, m, hn, h => by
    have hn' := List.nodup_cons.mp hn
    have hm := h a (by simp)
    have := nodup_le (l := l) (m := m.erase a) hn'.2 fun b hb => (List.mem_erase_of_ne (fun e => hn'.1 (by rw [← e]; exact hb))).mpr (h b (List.mem_cons_of_mem _ hb))
    rw [List.length_erase_of_mem hm] at this
    have : 0 < m.length := List.length_pos_of_mem hm
    rw [List.length_cons]
    omega
theorem POk.nodup {n m : Nat} {ps : List (Nat × Nat)} (h : POk n m ps) : (ps.map (·.1)).Nodup := by
  unfold List.Nodup
  rw [List.pairwise_map]
  exact h.inc.imp fun z => Nat.ne_of_lt z
theorem endless_iff {n : Nat} {w c : List (Nat × Nat)} (h : (Rung.shares w c).Ok n) : c.length < w.length ↔ ∃ p ∈ w, lk c p.1 = none := by
  obtain ⟨h1, h2, h3, h4⟩ := h
  constructor
  · intro hlt
    refine Classical.byContradiction fun hno => ?_
    have := nodup_le h2.nodup (m := c.map (·.1)) fun a ha => by
      obtain ⟨p, hp, rfl⟩ := List.mem_map.mp ha
      cases hc : lk c p.1 with
      | none => exact absurd ⟨p, hp, hc⟩ hno
      | some v => exact List.mem_map.mpr ⟨_, lk_mem hc, rfl⟩
    rw [List.length_map, List.length_map] at this
    omega
  · rintro ⟨p, hp, hc⟩
    rw [lk_none] at hc
    have := nodup_le h3.nodup (m := (w.map (·.1)).erase p.1) fun a ha => by
      obtain ⟨q, hq, rfl⟩ := List.mem_map.mp ha
      refine (List.mem_erase_of_ne (hc q hq)).mpr ?_
      obtain ⟨r, hr, e⟩ := h4 q hq
      exact List.mem_map.mpr ⟨r, hr, e⟩
    rw [List.length_erase_of_mem (List.mem_map.mpr ⟨p, hp, rfl⟩), List.length_map, List.length_map] at this
    have : 0 < w.length := List.length_pos_of_mem hp
    omega
/-! evaluation of pieces -/
def tot : List Pc → Rat
  | [] => 0
  | (some l, _) :: ps => l + tot ps
  | (none, _) :: ps => tot ps
section
variable {n : Nat} {ps qs : List Pc} {x y : Rat} {h : Nat}
end
/-! whole ladders -/
def lpcs : List Rung → List Pc
  | [] => []
  | r :: rs => pcs r ++ (if r.endless = true then [] else lpcs rs)
/-! bends -/
end Mx

/-! few bits: the numbers of a ladder's pieces -/
namespace Mx
open Sx (Bd)
/-! a number with a denominator of at most 20 -/
/-- what a loop over pieces meets: few bits in all -/
def Gd (h : Nat) : Rat → Rat → List Pc → Prop
  | s, p, [] => Bd 24 s ∧ Bd 24 p
  | s, p, (none, r) :: ps => Bd 24 s ∧ Bd 24 p ∧ Bd 13 (r h) ∧ ps = []
  | s, p, (some l, r) :: ps => Bd 24 s ∧ Bd 24 p ∧ Bd 13 (r h) ∧ Bd 24 l ∧ Gd h (s + l) (p + l * r h) ps
theorem pok_len {n m : Nat} {ps : List (Nat × Nat)} (h : POk n m ps) : ps.length ≤ n := by
  have := nodup_le h.nodup (m := List.range n) fun a ha => by
    obtain ⟨p, hp, rfl⟩ := List.mem_map.mp ha
    exact List.mem_range.mpr (h.el p hp).1
  rw [List.length_map, List.length_range] at this
  exact this
/-- ladders -/
structure Lad where
  n : Nat
  rs : List Rung
structure Lad.Ok (l : Lad) : Prop where
  n1 : 1 ≤ l.n
  n5 : l.n ≤ 5
  r1 : l.rs ≠ []
  r4 : l.rs.length ≤ 4
  ok : ∀ r ∈ l.rs, r.Ok l.n
  en : ∃ r, l.rs.getLast? = some r ∧ r.endless = true
/-- the payments of a ladder -/
def Lad.T (l : Lad) (x : Rat) (h : Nat) : Rat := ev (lpcs l.rs) x h
end Mx

namespace Sx
open PySem PySem.Spec PyProof.Rows L2 Mx
/-! ### loops and comprehensions over typed lists -/
theorem cL_ty {α : Type} {g : SG} {c : SB} {e : SE} {ρ0 : Sl} {W : Tw} (enc : α → Dt) (b : α → Bool) (v : α → Dt) : ∀ (xs : List α),
    (∀ x ∈ xs, ∃ ρ1, g (enc x) ρ0 = some ρ1 ∧ c ρ1 W = .ok (b x, W) ∧ (b x = true → e ρ1 W = .ok (v x, W))) → cL g c e ρ0 (xs.map enc) W = .ok ((xs.filter b).map v, W)
  | [], _ => rfl
  | x :: xs, h => by
    obtain ⟨ρ1, h1, h2, h3⟩ := h x (by simp)
    have ih := cL_ty enc b v xs fun y hy => h y (List.mem_cons_of_mem _ hy)
    rw [List.map_cons]
    unfold cL
    simp only [h1, h2, nox_ok, Res.bind_ok]
    cases hb : b x with
    | true =>
      simp only [if_true, h3 hb, nox_ok, Res.bind_ok, ih]
      rw [List.filter_cons_of_pos hb, List.map_cons]
    | false =>
      simp only [Bool.false_eq_true, if_false, ih]
      rw [List.filter_cons_of_neg (by simp [hb])]
theorem cL_map {α : Type} {g : SG} {e : SE} {ρ0 : Sl} {W : Tw} (enc : α → Dt) (v : α → Dt) (xs : List α)
    (h : ∀ x ∈ xs, ∃ ρ1, g (enc x) ρ0 = some ρ1 ∧ e ρ1 W = .ok (v x, W)) : cL g bYes e ρ0 (xs.map enc) W = .ok (xs.map v, W) := by
  have := cL_ty (c := bYes) enc (fun _ => true) v xs fun x hx => by
    obtain ⟨ρ1, h1, h2⟩ := h x hx
    exact ⟨ρ1, h1, rfl, fun _ => h2⟩
  rw [this, List.filter_eq_self.mpr fun _ _ => rfl]
/-! ### how a ladder is written -/
def pr (p : Nat × Nat) : Dt := .tuple [.int p.1, .int p.2]
def prs (ps : List (Nat × Nat)) : Dt := .tuple (ps.map pr)
def rd : Rung → Dt
  | .fixed s => .tuple [.str "fixed", prs s]
  | .shares w c => .tuple [.str "shares", prs w, prs c]
def ld (l : Lad) : Dt := .tuple [.int l.n, .tuple (l.rs.map rd)]
@[simp] theorem lenD_t {ds : List Dt} : lenD [.tuple ds] = some (.int ds.length) := rfl
@[simp] theorem lenD_l {ds : List Dt} : lenD [.list ds] = some (.int ds.length) := rfl
@[simp] theorem tupleD_l {ds : List Dt} : tupleD [.list ds] = some (.tuple ds) := rfl
@[simp] theorem tupleD_t {ds : List Dt} : tupleD [.tuple ds] = some (.tuple ds) := rfl
@[simp] theorem listL_l {ds : List Dt} : listL [.list ds] = some ds := rfl
@[simp] theorem listL_t {ds : List Dt} : listL [.tuple ds] = some ds := rfl
theorem blsOf_map : ∀ (ns : List Bool), blsOf (ns.map PyData.bool) = some ns
  | [] => rfl
  | n :: ns => by
    rw [List.map_cons]
    show (blsOf (ns.map PyData.bool)).map (n :: ·) = _
    rw [blsOf_map ns]; rfl
theorem allD_map {α : Type} (f : α → Bool) (xs : List α) : allD [.list (xs.map fun x => PyData.bool (f x))] = some (.bool (xs.all f)) := by
  have := blsOf_map (xs.map f)
  rw [List.map_map] at this
  show (blsOf (xs.map fun x => PyData.bool (f x))).map _ = _
  rw [show (xs.map fun x => PyData.bool (f x)) = xs.map (PyData.bool ∘ f) from rfl, this]
  show some (PyData.bool ((xs.map f).all id)) = _
  rw [List.all_map]
  rfl
@[simp] theorem isi_int_int {i : Int} : isiD "int" (.int i) = some (.bool true) := by rfl
@[simp] theorem isi_int_bool {i : Int} : isiD "bool" (.int i) = some (.bool false) := by rfl
@[simp] theorem isi_tup {ds : List Dt} : isiD "tuple" (.tuple ds) = some (.bool true) := by rfl
@[simp] theorem isi_str {z : Str} : isiD "str" (.str z) = some (.bool true) := by rfl
theorem is_between_ok {v lo hi : Int} : F_is_between [.int v, .int lo, .int hi] = .ok (.bool (decide (lo ≤ v) && decide (v ≤ hi))) := by
  unfold F_is_between
  simp only [B_is_between]
  simp
  by_cases h : lo ≤ v <;> simp [h]
theorem eqD_str {a b : Str} {k : Bool} (ha : SeqAt.shaped (.str a) = true) (hb : SeqAt.shaped (.str b) = true) (hk : (a == b) = k) : eqD (.str a) (.str b) = some (.bool k) := by
  unfold eqD; rw [ha, hb, ← hk]; rfl
theorem neD_str {a b : Str} {k : Bool} (ha : SeqAt.shaped (.str a) = true) (hb : SeqAt.shaped (.str b) = true) (hk : (a == b) = k) : neD (.str a) (.str b) = some (.bool (!k)) := by
  unfold neD; rw [ha, hb, ← hk]; rfl
@[simp] theorem eq_fixed : eqD (.str "fixed") (.str "fixed") = some (.bool true) := eqD_str (by decide +kernel) (by decide +kernel) (by decide +kernel)
@[simp] theorem eq_sf : eqD (.str "shares") (.str "fixed") = some (.bool false) := eqD_str (by decide +kernel) (by decide +kernel) (by decide +kernel)
@[simp] theorem eq_fs : eqD (.str "fixed") (.str "shares") = some (.bool false) := eqD_str (by decide +kernel) (by decide +kernel) (by decide +kernel)
@[simp] theorem eq_shares : eqD (.str "shares") (.str "shares") = some (.bool true) := eqD_str (by decide +kernel) (by decide +kernel) (by decide +kernel)
@[simp] theorem ne_shares : neD (.str "shares") (.str "shares") = some (.bool false) := neD_str (k := true) (by decide +kernel) (by decide +kernel) (by decide +kernel)
@[simp] theorem ne_fs : neD (.str "fixed") (.str "shares") = some (.bool true) := neD_str (k := false) (by decide +kernel) (by decide +kernel) (by decide +kernel)
theorem is_endless_ok (r : Rung) : F_is_endless [rd r] = .ok (.bool r.endless) := by
  unfold F_is_endless
  simp only [B_is_endless]
  cases r with
  | fixed s => simp [rd, Rung.endless]
  | shares w c => simp [rd, prs, Rung.endless]
end Sx

namespace Sx
open PySem PySem.Spec PyProof.Rows L2 Mx
theorem fL_ret {α : Type} {g : SG} {body : SS} {W : Tw} (enc : α → Dt) (q : α → Bool) (r : SV) (J : Sl → Prop) : ∀ (xs : List α) (ρ : Sl), J ρ →
    (∀ x ∈ xs, ∀ ρ, J ρ → ∃ ρ1, g (enc x) ρ = some ρ1 ∧ (q x = true → ∃ ρ2, body ρ1 W = .nx ρ2 W ∧ J ρ2) ∧ (q x = false → body ρ1 W = .rt r W)) →
    (xs.all q = true → ∃ ρ', fL g body (xs.map enc) ρ W = .nx ρ' W ∧ J ρ') ∧ (xs.all q = false → fL g body (xs.map enc) ρ W = .rt r W)
  | [], ρ, j, _ => ⟨fun _ => ⟨ρ, rfl, j⟩, fun h => by cases h⟩
  | x :: xs, ρ, j, h => by
    obtain ⟨ρ1, h1, h2, h3⟩ := h x (by simp) ρ j
    rw [List.map_cons, List.all_cons]
    have e : fL g body (enc x :: xs.map enc) ρ W = (match body ρ1 W with | .nx ρ2 W2 => fL g body (xs.map enc) ρ2 W2 | r => r) := by
      show (match g (enc x) ρ with | none => Out.bad | some ρ1 => match body ρ1 W with | .nx ρ2 W2 => fL g body (xs.map enc) ρ2 W2 | r => r) = _
      rw [h1]
    rw [e]
    cases hq : q x with
    | false => rw [h3 hq]; exact ⟨fun z => by simp at z, fun _ => rfl⟩
    | true =>
      obtain ⟨ρ2, h4, h5⟩ := h2 hq
      rw [h4]
      simp only [Bool.true_and]
      exact fL_ret enc q r J xs ρ2 h5 fun y hy => h y (List.mem_cons_of_mem _ hy)
def pairB (n m : Nat) (p : Nat × Nat) : Bool := decide (p.1 < n) && (decide (1 ≤ p.2) && decide (p.2 ≤ m))
def incB (ps : List (Nat × Nat)) : Bool := (List.range (ps.length - 1)).all fun k => decide ((ps.getD k (0, 0)).1 < (ps.getD (k + 1) (0, 0)).1)
theorem incB_iff : ∀ ps : List (Nat × Nat), incB ps = true ↔ ps.Pairwise (fun a b => a.1 < b.1)
  | [] => by simp [incB]
  | [p] => by simp [incB]
  | p :: q :: ps => by
    have ih := incB_iff (q :: ps)
    have e : incB (p :: q :: ps) = (decide (p.1 < q.1) && incB (q :: ps)) := by
      unfold incB
      show (List.range (ps.length + 1)).all _ = _
      rw [List.range_succ_eq_map, List.all_cons, List.all_map]
      rfl
    rw [e, Bool.and_eq_true, decide_eq_true_eq, ih]
    rw [List.pairwise_cons (a := p)]
    constructor
    · rintro ⟨h1, h2⟩
      refine ⟨fun b hb => ?_, h2⟩
      rcases List.mem_cons.mp hb with z | z
      · rw [z]; exact h1
      · exact Nat.lt_trans h1 ((List.pairwise_cons.mp h2).1 b z)
    · rintro ⟨h1, h2⟩
      exact ⟨h1 q (by simp), h2⟩
@[simp] theorem isi_prs {ps} : isiD "tuple" (prs ps) = some (.bool true) := by rfl
@[simp] theorem isi_pr {p} : isiD "tuple" (pr p) = some (.bool true) := by rfl
@[simp] theorem len_prs {ps : List (Nat × Nat)} : lenD [prs ps] = some (.int ps.length) := by
  show some (PyData.int ((ps.map pr).length : Int)) = _
  rw [List.length_map]
@[simp] theorem len_pr {p} : lenD [pr p] = some (.int 2) := by rfl
@[simp] theorem seq_prs {ps : List (Nat × Nat)} : seqOf (prs ps) = some (ps.map pr) := by rfl
@[simp] theorem ix_pr0 {p : Nat × Nat} : ixD (pr p) (.int 0) = some (.int p.1) := by rfl
@[simp] theorem ix_pr1 {p : Nat × Nat} : ixD (pr p) (.int 1) = some (.int p.2) := by rfl
@[simp] theorem gTu_pr {p : Nat × Nat} {gs : SGs} {ρ : Sl} : gTu 2 gs (pr p) ρ = gs [.int p.1, .int p.2] ρ := by rfl
@[simp] theorem list_prs {ps : List (Nat × Nat)} : listL [prs ps] = some (ps.map pr) := by rfl
theorem ix_prs {ps : List (Nat × Nat)} {i : Nat} (h : i < ps.length) : ixD (prs ps) (.int (i : Int)) = some (pr (ps.getD i (0, 0))) := by
  show atI (ps.map pr) (i : Int) = _
  rw [atI_nat (by simp; omega), List.getElem?_map, List.getD_eq_getElem?_getD, List.getElem?_eq_getElem (by omega)]; rfl
theorem rngOf_len {n : Nat} (h : n ≤ 1000) : rngOf [.int ((n : Int) - 1)] = some ((List.range (n - 1)).map fun (i : Nat) => PyData.int (i : Int)) := by
  show (if ((n : Int) - 1) ≤ 100000 ∧ -100000 ≤ ((n : Int) - 1) then some (rngD ((n : Int) - 1)) else none) = _
  rw [if_pos (by omega)]
  unfold rngD
  rw [show ((n : Int) - 1).toNat = n - 1 by omega]
theorem are_pairs_loop {n m : Nat} {x y : Option SV} (ps : List (Nat × Nat)) : (ps.all (pairB n m) = true → ∃ ρ', fL (gN 4) lB_are_pairs_1 (ps.map pr) [some (.d (.int n)), x, some (.d (.int m)), y, none, none] none = .nx ρ' none ∧ ∃ a, ρ' = [some (.d (.int n)), x, some (.d (.int m)), y, a, none]) ∧ (ps.all (pairB n m) = false → fL (gN 4) lB_are_pairs_1 (ps.map pr) [some (.d (.int n)), x, some (.d (.int m)), y, none, none] none = .rt (.d (.bool false)) none) := fL_ret (W := none) (g := gN 4) (body := lB_are_pairs_1) pr (pairB n m) (.d (.bool false))
    (fun ρ => ∃ a, ρ = [some (.d (.int n)), x, some (.d (.int m)), y, a, none]) ps [some (.d (.int n)), x, some (.d (.int m)), y, none, none] ⟨_, rfl⟩ (by
      rintro p hx ρ ⟨a, rfl⟩
      refine ⟨[some (.d (.int n)), x, some (.d (.int m)), y, some (.d (pr p)), none], by simp, fun hq => ⟨[some (.d (.int n)), x, some (.d (.int m)), y, some (.d (pr p)), none], ?_, ⟨_, rfl⟩⟩, fun hq => ?_⟩
      · unfold pairB at hq
        simp only [Bool.and_eq_true, decide_eq_true_eq] at hq
        simp [lB_are_pairs_1, is_between_ok, show (p.1 : Int) ≤ (n : Int) - 1 by omega, show (1 : Int) ≤ (p.2 : Int) by omega, show p.2 ≤ m by omega]
      · unfold pairB at hq
        by_cases h1 : p.1 < n
        · have h2 : ¬ (1 ≤ p.2 ∧ p.2 ≤ m) := fun z => by simp [h1, z.1, z.2] at hq
          simp [lB_are_pairs_1, is_between_ok, show (p.1 : Int) ≤ (n : Int) - 1 by omega]
          by_cases h3 : 1 ≤ p.2
          · simp [show (1 : Int) ≤ (p.2 : Int) by omega, show m < p.2 from Nat.lt_of_not_le fun z => h2 ⟨h3, z⟩]
          · simp [show ¬ (1 : Int) ≤ (p.2 : Int) by omega]
        · simp [lB_are_pairs_1, is_between_ok, show ¬ (p.1 : Int) ≤ (n : Int) - 1 by omega])
theorem are_pairs_comp {a b c d e : Option SV} (ps : List (Nat × Nat)) : cL (gN 5) bYes cE_are_pairs_2 [a, some (.d (prs ps)), b, c, d, none] ((List.range (ps.length - 1)).map fun (i : Nat) => PyData.int (i : Int)) none = .ok ((List.range (ps.length - 1)).map fun k => PyData.bool (decide ((ps.getD k (0, 0)).1 < (ps.getD (k + 1) (0, 0)).1)), none) := by
  refine cL_map (fun (i : Nat) => PyData.int (i : Int)) _ _ fun i hi => ⟨_, by simp; rfl, ?_⟩
  have hi := List.mem_range.mp hi
  have e1 := ix_prs (ps := ps) (i := i) (by omega)
  have e2 := ix_prs (ps := ps) (i := i + 1) (by omega)
  rw [Int.natCast_add] at e2
  simp only [cE_are_pairs_2]
  simp at e2
  simp [e1, e2]
theorem are_pairs_ok {n m k : Nat} (ps : List (Nat × Nat)) (hl : ps.length ≤ 1000) : F_are_pairs [.int n, prs ps, .int m, .int k] = .ok (.bool (!decide (ps.length < k) && (ps.all (pairB n m) && incB ps))) := by
  have hloop := are_pairs_loop (n := n) (m := m) (x := some (.d (prs ps))) (y := some (.d (.int k))) ps
  unfold F_are_pairs
  simp only [B_are_pairs]
  by_cases hk : ps.length < k
  · simp [hk]
  · cases hall : ps.all (pairB n m) with
    | false => simp [hk, hloop.2 hall]
    | true =>
      obtain ⟨ρ', h1, a, rfl⟩ := hloop.1 hall
      have e6 := allD_map (fun k => decide ((ps.getD k (0, 0)).1 < (ps.getD (k + 1) (0, 0)).1)) (List.range (ps.length - 1))
      have hc := are_pairs_comp (a := some (.d (.int n))) (b := some (.d (.int m))) (c := some (.d (.int k))) (d := a) (e := none) ps
      simp [hk, h1, rngOf_len hl, wipeOk, show ps.length - 1 ≤ 100000 by omega, hc, allD_map, incB]

theorem pokB_iff {n m : Nat} {ps : List (Nat × Nat)} : (ps.all (pairB n m) && incB ps) = true ↔ POk n m ps := by
  rw [Bool.and_eq_true, incB_iff, List.all_eq_true]
  constructor
  · rintro ⟨h1, h2⟩
    exact ⟨fun p hp => by have := h1 p hp; unfold pairB at this; simpa using this, h2⟩
  · rintro ⟨h1, h2⟩
    exact ⟨fun p hp => by have := h1 p hp; unfold pairB; simpa using this, h2⟩
/-! a rung -/
def rungB (n : Nat) : Rung → Bool
  | .fixed s => !decide (s.length < 1) && (s.all (pairB n 999) && incB s)
  | .shares w c => (!decide (w.length < 1) && (w.all (pairB n 20) && incB w)) && ((c.all (pairB n 999) && incB c) && c.all fun p => (w.map (·.1)).contains p.1)
theorem rungB_iff {n : Nat} {r : Rung} : rungB n r = true ↔ r.Ok n := by
  cases r with
  | fixed s =>
    unfold rungB Rung.Ok
    rw [Bool.and_eq_true, pokB_iff]
    cases s <;> simp
  | shares w c =>
    show ((!decide (w.length < 1) && (w.all (pairB n 20) && incB w)) && ((c.all (pairB n 999) && incB c) && c.all fun p => (w.map (·.1)).contains p.1)) = true ↔ w ≠ [] ∧ POk n 20 w ∧ POk n 999 c ∧ ∀ p ∈ c, ∃ q ∈ w, q.1 = p.1
    rw [Bool.and_eq_true (!decide (w.length < 1) && (w.all (pairB n 20) && incB w)), Bool.and_eq_true (!decide (w.length < 1)), Bool.and_eq_true (c.all (pairB n 999) && incB c), pokB_iff, pokB_iff]
    have : (c.all fun p => (w.map (·.1)).contains p.1) = true ↔ ∀ p ∈ c, ∃ q ∈ w, q.1 = p.1 := by
      rw [List.all_eq_true]
      constructor
      · intro h p hp
        have := h p hp
        rw [List.contains_iff_mem, List.mem_map] at this
        exact this
      · intro h p hp
        rw [List.contains_iff_mem, List.mem_map]
        exact h p hp
    rw [this]
    cases w <;> simp [and_assoc]
theorem inB_map {k : Nat} : ∀ (ks : List Nat), inB (.int (k : Int)) (ks.map fun (j : Nat) => PyData.int (j : Int)) = ks.contains k
  | [] => rfl
  | j :: ks => by
    rw [List.map_cons]
    unfold inB
    rw [List.any_cons]
    have ih := inB_map (k := k) ks
    unfold inB at ih
    rw [ih, List.contains_cons]
    congr 1
    show (((j : Nat) : Int) == (k : Int)) = (k == j)
    rw [Bool.eq_iff_iff]
    simp
    omega
theorem shaped_ints : ∀ (ks : List Nat), SeqAt.shaped (.list (ks.map fun (j : Nat) => PyData.int (j : Int))) = true := by
  intro ks
  have h1 : ∀ ks : List Nat, PyData.canLayAll0 (ks.map fun (j : Nat) => PyData.int (j : Int)) = true := by
    intro ks
    induction ks with
    | nil => rfl
    | cons k ks ih => rw [List.map_cons]; exact ih
  have h2 : ∀ ks : List Nat, PyData.depthAll (ks.map fun (j : Nat) => PyData.int (j : Int)) = 0 := by
    intro ks
    induction ks with
    | nil => rfl
    | cons k ks ih => rw [List.map_cons]; show max 0 (PyData.depthAll _) = 0; rw [ih]; rfl
  have e : SeqAt.shaped (.list (ks.map fun (j : Nat) => PyData.int (j : Int))) = (PyData.canLayAll0 (ks.map fun (j : Nat) => PyData.int (j : Int)) && decide (PyData.depthAll (ks.map fun (j : Nat) => PyData.int (j : Int)) + 1 ≤ 64)) := rfl
  rw [e, h1, h2]
  rfl
theorem inD_ints {k : Nat} {ks : List Nat} : inD (.int (k : Int)) (.list (ks.map fun (j : Nat) => PyData.int (j : Int))) = some (.bool (ks.contains k)) := by
  show (if SeqAt.shaped (.int (k : Int)) && SeqAt.shaped (.list (ks.map fun (j : Nat) => PyData.int (j : Int))) then some (PyData.bool (inB (.int (k : Int)) (ks.map fun (j : Nat) => PyData.int (j : Int)))) else none) = _
  rw [shaped_ints, inB_map]
  rfl
theorem is_rung_ok {n : Nat} {r : Rung} (hl : r.A.length ≤ 1000 ∧ r.C.length ≤ 1000) : F_is_rung [.int n, rd r] = .ok (.bool (rungB n r)) := by
  unfold F_is_rung
  simp only [B_is_rung]
  cases r with
  | fixed s =>
    have h : F_are_pairs [.int n, prs s, .int 999, .int 1] = .ok (.bool (!decide (s.length < 1) && (s.all (pairB n 999) && incB s))) := are_pairs_ok (n := n) (m := 999) (k := 1) s hl.1
    show _ = Res.ok (PyData.bool (!decide (s.length < 1) && (s.all (pairB n 999) && incB s)))
    generalize (!decide (s.length < 1) && (s.all (pairB n 999) && incB s)) = bs at h ⊢
    simp [rd, h]
  | shares w c =>
    have hl1 : w.length ≤ 1000 := hl.1
    have hl2 : c.length ≤ 1000 := hl.2
    have h1 : F_are_pairs [.int n, prs w, .int 20, .int 1] = .ok (.bool (!decide (w.length < 1) && (w.all (pairB n 20) && incB w))) := are_pairs_ok (n := n) (m := 20) (k := 1) w hl.1
    have h2 : F_are_pairs [.int n, prs c, .int 999, .int 0] = .ok (.bool (!decide (c.length < 0) && (c.all (pairB n 999) && incB c))) := are_pairs_ok (n := n) (m := 999) (k := 0) c hl.2
    rw [show (!decide (c.length < 0)) = true by simp, Bool.true_and] at h2
    have hr : rungB n (.shares w c) = ((!decide (w.length < 1) && (w.all (pairB n 20) && incB w)) && ((c.all (pairB n 999) && incB c) && c.all fun p => (w.map (·.1)).contains p.1)) := rfl
    rw [hr]
    generalize (!decide (w.length < 1) && (w.all (pairB n 20) && incB w)) = bw at h1 ⊢
    generalize (c.all (pairB n 999) && incB c) = bc at h2 ⊢
    have hc1 : cL (gTu 2 (gsCons (gN 3) (gsCons (gN 4) gsNil))) bYes cE_is_rung_1 [some (.d (.int n)), some (.d (rd (.shares w c))), none, none, none, none] (w.map pr) none = .ok (w.map (fun p => PyData.int (p.1 : Int)), none) := by
      refine cL_map pr _ _ fun p hp => ⟨_, by simp; rfl, ?_⟩
      simp [cE_is_rung_1]
    have hc2 : cL (gTu 2 (gsCons (gN 3) (gsCons (gN 5) gsNil))) bYes cE_is_rung_2 [some (.d (.int n)), some (.d (rd (.shares w c))), some (.d (.list (w.map (fun p => PyData.int (p.1 : Int))))), none, none, none] (c.map pr) none = .ok (c.map (fun p => PyData.bool ((w.map (·.1)).contains p.1)), none) := by
      refine cL_map pr _ _ fun p hp => ⟨_, by simp; rfl, ?_⟩
      have := inD_ints (k := p.1) (ks := w.map (·.1))
      rw [List.map_map] at this
      simp only [cE_is_rung_2]
      simp only [eBin_s, eVar_s]
      have this : inD (.int (p.1 : Int)) (.list (w.map (fun p => PyData.int (p.1 : Int)))) = some (.bool ((w.map (·.1)).contains p.1)) := this
      simp [this]
    simp only [rd] at hc1 hc2 ⊢
    cases bw with
    | false => simp [h1]
    | true =>
      cases bc with
      | false => simp [h1, h2]
      | true => simp [h1, h2, wipeOk, hc1, hc2, allD_map, show w.length ≤ 100000 by omega, show c.length ≤ 100000 by omega]
end Sx

namespace Sx
open PySem PySem.Spec PyProof.Rows L2 Mx
@[simp] theorem ix_ld0 {l : Lad} : ixD (ld l) (.int 0) = some (.int l.n) := by rfl
@[simp] theorem ix_ld1 {l : Lad} : ixD (ld l) (.int 1) = some (.tuple (l.rs.map rd)) := by rfl
@[simp] theorem isi_ld {l : Lad} : isiD "tuple" (ld l) = some (.bool true) := by rfl
@[simp] theorem len_ld {l : Lad} : lenD [ld l] = some (.int 2) := by rfl
@[simp] theorem gTu_ld {l : Lad} {gs : SGs} {ρ : Sl} : gTu 2 gs (ld l) ρ = gs [.int l.n, .tuple (l.rs.map rd)] ρ := by rfl
theorem is_ladder_ok {n : Nat} {rs : List Rung} {r : Rung} (h1 : 1 ≤ n) (h5 : n ≤ 5) (hr : rs.length ≤ 3) (hl : ∀ q ∈ rs ++ [r], q.A.length ≤ 1000 ∧ q.C.length ≤ 1000) :
    F_is_ladder [ld ⟨n, rs ++ [r]⟩] = .ok (.bool ((rs ++ [r]).all (rungB n) && r.endless)) := by
  have hc : cL (gN 3) bYes cE_is_ladder_1 [some (.d (ld ⟨n, rs ++ [r]⟩)), some (.d (.int n)), some (.d (.tuple ((rs ++ [r]).map rd))), none] ((rs ++ [r]).map rd) none = .ok ((rs ++ [r]).map (fun q => PyData.bool (rungB n q)), none) := by
    refine cL_map rd _ _ fun q hq => ⟨_, by simp; rfl, ?_⟩
    simp [cE_is_ladder_1, is_rung_ok (n := n) (hl q hq)]
  have hat : atI ((rs ++ [r]).map rd) (-1) = some (rd r) := by rw [List.map_append]; exact atI_last
  unfold F_is_ladder
  simp only [B_is_ladder]
  generalize hL : rs ++ [r] = L at *
  have hlen : L.length = rs.length + 1 := by rw [← hL]; simp
  have ha : allD [.list (L.map fun q => PyData.bool (rungB n q))] = some (.bool (L.all (rungB n))) := allD_map _ _
  generalize L.all (rungB n) = b at ha ⊢
  cases b <;> simp [is_between_ok, show (1 : Int) ≤ (n : Int) by omega, show (n : Int) ≤ 5 by omega, hlen, show (1 : Int) ≤ (rs.length : Int) + 1 by omega, show (rs.length : Int) + 1 ≤ 4 by omega, wipeOk, show rs.length + 1 ≤ 100000 by omega, hc, ha, hat, is_endless_ok]
theorem ladB_iff {n : Nat} {rs : List Rung} {r : Rung} (h1 : 1 ≤ n) (h5 : n ≤ 5) (hr : rs.length ≤ 3) : ((rs ++ [r]).all (rungB n) && r.endless) = true ↔ Lad.Ok ⟨n, rs ++ [r]⟩ := by
  rw [Bool.and_eq_true, List.all_eq_true]
  constructor
  · rintro ⟨a, b⟩
    exact ⟨h1, h5, by simp, by simp; omega, fun q hq => rungB_iff.mp (a q hq), r, by simp, b⟩
  · intro k
    obtain ⟨r', e1, e2⟩ := k.en
    simp at e1
    subst e1
    exact ⟨fun q hq => rungB_iff.mpr (k.ok q hq), e2⟩
theorem Ok_len {n : Nat} {r : Rung} (h : r.Ok n) (h5 : n ≤ 5) : r.A.length ≤ 1000 ∧ r.C.length ≤ 1000 := by
  cases r with
  | fixed s => have := pok_len h.2; exact ⟨by show s.length ≤ _; omega, by show s.length ≤ _; omega⟩
  | shares w c => have := pok_len h.2.1; have := pok_len h.2.2.1; exact ⟨by show w.length ≤ _; omega, by show c.length ≤ _; omega⟩
theorem is_ladder_true {l : Lad} (k : l.Ok) : F_is_ladder [ld l] = .ok (.bool true) := by
  obtain ⟨n, rs⟩ := l
  obtain ⟨r, e1, e2⟩ := k.en
  obtain ⟨qs, e3⟩ : ∃ qs, rs = qs ++ [r] := by
    have := List.getLast?_eq_some_iff.mp e1
    exact this
  subst e3
  have h4 := k.r4
  simp at h4
  rw [is_ladder_ok k.n1 k.n5 (by omega) fun q hq => Ok_len (k.ok q hq) k.n5, (ladB_iff k.n1 k.n5 (by omega)).mpr k]
theorem check_ladder_ok {l : Lad} (k : l.Ok) : F_check_ladder [ld l] = .ok .none := by
  unfold F_check_ladder
  simp only [B_check_ladder]
  simp [is_ladder_true k]
/-! amounts -/
@[simp] theorem isi_fr {q} : isiD "tuple" (fr q) = some (.bool true) := by rfl
@[simp] theorem len_fr {q} : lenD [fr q] = some (.int 2) := by rfl
@[simp] theorem ix_fr0 {q : Rat} : ixD (fr q) (.int 0) = some (.int q.num) := by rfl
@[simp] theorem ix_fr1 {q : Rat} : ixD (fr q) (.int 1) = some (.int q.den) := by rfl
end Sx

namespace Sx
open PySem PySem.Spec PyProof.Rows L2 Mx
/-! ### rates -/
theorem ixN_nat {n h : Nat} (hh : h < n) : ixN n (h : Int) = some h := by
  unfold ixN
  rw [if_pos (by omega), if_pos (by omega)]; rfl
end Sx

namespace Sx
open PySem PySem.Spec PyProof.Rows L2 Mx
/-! ### dicts as typed lists -/
@[simp] theorem shaped_fr {q : Rat} : SeqAt.shaped (fr q) = true := by rfl
@[simp] theorem isD_none : isD .none .none = some (.bool true) := by rfl
@[simp] theorem isD_fr {q : Rat} : isD (fr q) .none = some (.bool false) := by rfl
@[simp] theorem isNotD_none : isNotD .none .none = some (.bool false) := by rfl
@[simp] theorem isNotD_fr {q : Rat} : isNotD (fr q) .none = some (.bool true) := by rfl
/-! ### the numbers -/
end Sx

namespace Sx
open PySem PySem.Spec PyProof.Rows L2 Mx
/-! data that may be compared -/
mutual
def flt : Nat → Dt → Bool
  | _, .none => true
  | _, .bool _ => true
  | _, .int _ => true
  | _, .str _ => false
  | k, .list ds => match k with
    | 0 => false
    | k + 1 => flts k ds
  | k, .tuple ds => match k with
    | 0 => false
    | k + 1 => flts k ds
  | _, .dict _ => false
def flts : Nat → List Dt → Bool
  | _, [] => true
  | k, d :: ds => flt k d && flts k ds
end
mutual
theorem flt_ok : ∀ (d : Dt) (k : Nat), flt k d = true → d.canLay0 = true ∧ d.depth ≤ k
  | .none, k, _ => ⟨rfl, Nat.zero_le _⟩
  | .bool _, k, _ => ⟨rfl, Nat.zero_le _⟩
  | .int _, k, _ => ⟨rfl, Nat.zero_le _⟩
  | .str _, k, h => by unfold flt at h; cases h
  | .list ds, 0, h => by unfold flt at h; cases h
  | .list ds, k + 1, h => by
    unfold flt at h
    have := flts_ok ds k h
    exact ⟨this.1, Nat.succ_le_succ this.2⟩
  | .tuple ds, 0, h => by unfold flt at h; cases h
  | .tuple ds, k + 1, h => by
    unfold flt at h
    have := flts_ok ds k h
    exact ⟨this.1, Nat.succ_le_succ this.2⟩
  | .dict _, k, h => by unfold flt at h; cases h
theorem flts_ok : ∀ (ds : List Dt) (k : Nat), flts k ds = true → PyData.canLayAll0 ds = true ∧ PyData.depthAll ds ≤ k
  | [], k, _ => ⟨rfl, Nat.zero_le _⟩
  | d :: ds, k, h => by
    unfold flts at h
    rw [Bool.and_eq_true] at h
    have h1 := flt_ok d k h.1
    have h2 := flts_ok ds k h.2
    exact ⟨by show (PyData.canLay0 d && PyData.canLayAll0 ds) = true; rw [h1.1, h2.1]; rfl, Nat.max_le.mpr ⟨h1.2, h2.2⟩⟩
end
theorem shaped_flt {d : Dt} {k : Nat} (h : flt k d = true) (hk : k ≤ 64) : SeqAt.shaped d = true := by
  obtain ⟨h1, h2⟩ := flt_ok d k h
  unfold SeqAt.shaped
  rw [h1, decide_eq_true (by omega)]
  rfl
mutual
theorem eqv_refl : ∀ (d : Dt) (k : Nat), flt k d = true → PyData.eqv d d = true
  | .none, k, _ => rfl
  | .bool b, k, _ => by show (b == b) = true; simp
  | .int i, k, _ => by show (i == i) = true; simp
  | .str _, k, h => by unfold flt at h; cases h
  | .list ds, 0, h => by unfold flt at h; cases h
  | .list ds, k + 1, h => by unfold flt at h; exact eqvAll_refl ds k h
  | .tuple ds, 0, h => by unfold flt at h; cases h
  | .tuple ds, k + 1, h => by unfold flt at h; exact eqvAll_refl ds k h
  | .dict _, k, h => by unfold flt at h; cases h
theorem eqvAll_refl : ∀ (ds : List Dt) (k : Nat), flts k ds = true → PyData.eqvAll ds ds = true
  | [], k, _ => rfl
  | d :: ds, k, h => by
    unfold flts at h
    rw [Bool.and_eq_true] at h
    show (PyData.eqv d d && PyData.eqvAll ds ds) = true
    rw [eqv_refl d k h.1, eqvAll_refl ds k h.2]; rfl
end
theorem flts_map {α : Type} {k : Nat} {f : α → Dt} : ∀ {xs : List α}, (∀ x ∈ xs, flt k (f x) = true) → flts k (xs.map f) = true
  | [], _ => rfl
  | x :: xs, h => by
    rw [List.map_cons]
    show (flt k (f x) && flts k (xs.map f)) = true
    rw [h x (by simp), flts_map fun y hy => h y (List.mem_cons_of_mem _ hy)]; rfl
theorem neD_nil {ds : List Dt} {k : Nat} (h : flts k ds = true) (hk : k ≤ 60) : neD (.list ds) (.list []) = some (.bool (!ds.isEmpty)) := by
  unfold neD
  rw [shaped_flt (k := k + 1) (show flt (k + 1) (.list ds) = true from h) (by omega), show SeqAt.shaped (.list []) = true from rfl]
  cases ds <;> rfl
theorem eqD_nil {ds : List Dt} {k : Nat} (h : flts k ds = true) (hk : k ≤ 60) : eqD (.list ds) (.list []) = some (.bool ds.isEmpty) := by
  unfold eqD
  rw [shaped_flt (k := k + 1) (show flt (k + 1) (.list ds) = true from h) (by omega), show SeqAt.shaped (.list []) = true from rfl]
  cases ds <;> rfl
end Sx

namespace Sx
open PySem PySem.Spec PyProof.Rows L2 Mx
theorem rngOf_n {n : Nat} (h : n ≤ 1000) : rngOf [.int (n : Int)] = some ((List.range n).map fun (i : Nat) => PyData.int (i : Int)) := by
  show (if (n : Int) ≤ 100000 ∧ -100000 ≤ (n : Int) then some (rngD (n : Int)) else none) = _
  rw [if_pos (by omega)]
  rfl
end Sx

namespace Sx
open PySem PySem.Spec PyProof.Rows L2 Mx
/-! ### draws -/
abbrev iD (n : Nat) : Dt := .int (n : Int)
def scD (ns : List Int) : Dt := .list (ns.map PyData.int)
def Tn (ns : List Int) (m : Nat) (ws : List Dt) : Prop := ∃ (c : Nat) (zs : List Int), ws = .int (c : Int) :: zs.map PyData.int ∧ zs.length = ns.length ∧ c + m ≤ 1000000
theorem Tn.mono {ns : List Int} {m m' : Nat} {ws : List Dt} (h : Tn ns m ws) (hm : m' ≤ m) : Tn ns m' ws := by
  obtain ⟨c, zs, h1, h2, h3⟩ := h
  exact ⟨c, zs, h1, h2, by omega⟩
theorem town_ok (ns : List Int) (h : ns.length ≤ 63) : F__law_town [scD ns] = .ok (.int 0 :: ns.map PyData.int) := by
  unfold F__law_town
  simp only [B__law_town, scD]
  have : addL (.list [.int 0]) (.list (ns.map PyData.int)) = some (.int 0 :: ns.map PyData.int) := by
    show (if ([PyData.int 0] : List Dt).length + (ns.map PyData.int).length ≤ 100000 then some ([PyData.int 0] ++ ns.map PyData.int) else none) = _
    rw [if_pos (by simp; omega)]; rfl
  simp [this]
theorem Tn.start (ns : List Int) : Tn ns 1000000 (.int 0 :: ns.map PyData.int) := ⟨0, ns, rfl, rfl, by omega⟩
theorem flts_ints {k : Nat} (ns : List Int) : flts k (ns.map PyData.int) = true := flts_map fun _ _ => by cases k <;> rfl
theorem atI_ints {ns : List Int} {i : Nat} (h : i < ns.length) : atI (ns.map PyData.int) (i : Int) = some (.int (ns.getD i 0)) := by
  rw [atI_nat (by simpa using h), List.getElem?_map, List.getD_eq_getElem?_getD, List.getElem?_eq_getElem h]; rfl
theorem setD_0 {c : Dt} {zs : List Dt} {d : Dt} : setD (c :: zs) (.int 0) d = some (d :: zs) := by
  show (ixN (c :: zs).length 0).map _ = _
  have : ixN (c :: zs).length 0 = some 0 := by
    have := ixN_nat (n := (c :: zs).length) (h := 0) (by simp)
    simpa using this
  rw [this]; rfl
theorem setD_s {c : Dt} {zs : List Int} {d : Int} {i : Nat} (h : i < zs.length) : setD (c :: zs.map PyData.int) (.int (1 + (i : Int))) (.int d) = some (c :: (zs.set i d).map PyData.int) := by
  show (ixN (c :: zs.map PyData.int).length (1 + (i : Int))).map _ = _
  have e : ((1 : Int) + (i : Int)) = ((1 + i : Nat) : Int) := by omega
  rw [e, ixN_nat (by simp; omega), show 1 + i = i + 1 by omega]
  show some (c :: (zs.map PyData.int).set i (.int d)) = _
  rw [List.map_set]
theorem atI_s {c : Dt} {zs : List Int} {i : Nat} (h : i < zs.length) : atI (c :: zs.map PyData.int) (1 + (i : Int)) = some (.int (zs.getD i 0)) := by
  have e : ((1 : Int) + (i : Int)) = ((i + 1 : Nat) : Int) := by omega
  rw [e, atI_nat (by simp; omega), List.getElem?_cons_succ, List.getElem?_map, List.getD_eq_getElem?_getD, List.getElem?_eq_getElem h]; rfl
theorem powD_i {a : Int} {b : Nat} (h : a.natAbs < 2 ^ 64) (hb : b ≤ 1000000) : powD (.int a) (.int (b : Int)) = some (.int (a ^ b)) := by
  show (if 0 ≤ (b : Int) ∧ (b : Int) ≤ 1000000 ∧ a.natAbs < 2 ^ 64 then some (PyData.int (a ^ (b : Int).toNat)) else none) = _
  rw [if_pos ⟨by omega, by omega, h⟩, Int.toNat_natCast]
theorem draw_ok {ns : List Int} {m L : Nat} {ws : List Dt} (hl : ns.length ≤ 63) (hL : 0 < L) (hLb : L < 2 ^ 64) (t : Tn ns (m + 1) ws) : ∃ (d : Nat) (ws' : List Dt), F__law_draw [scD ns, .int (L : Int)] ws = .ok (iD d, ws') ∧ d < L ∧ Tn ns m ws' := by
  obtain ⟨c, zs, rfl, hz, hc⟩ := t
  have hm : ∀ x : Int, ∃ d : Nat, x % (L : Int) = (d : Int) ∧ d < L := fun x => by
    have h1 := Int.emod_nonneg x (show (L : Int) ≠ 0 by omega)
    have h2 := Int.emod_lt_of_pos x (show (0 : Int) < (L : Int) by omega)
    exact ⟨(x % (L : Int)).toNat, by omega, by omega⟩
  have hLlog : (L : Nat).log2 < 9000 := by
    rw [Nat.log2_lt (by omega)]
    exact Nat.lt_of_lt_of_le hLb (Nat.pow_le_pow_right (by decide) (by decide))
  have hcc : ((c : Int) + 1).natAbs < 2 ^ 20 := by
    have : ((c : Int) + 1).natAbs ≤ 1000000 := by omega
    exact Nat.lt_of_le_of_lt this (by decide)
  by_cases hns : ns = []
  · subst hns
    have hz0 : zs = [] := List.eq_nil_of_length_eq_zero hz
    subst hz0
    obtain ⟨d, hd, hd2⟩ := hm (((c : Int) + 1) * ((c : Int) + 1) * 7 / 3)
    refine ⟨d, [.int ((c : Int) + 1)], ?_, hd2, c + 1, [], rfl, rfl, by omega⟩
    have m1 : mulOk ((c : Int) + 1) ((c : Int) + 1) = true := mulOk_of hcc hcc (by decide)
    have m2 : mulOk (((c : Int) + 1) * ((c : Int) + 1)) 7 = true := mulOk_of (j := 40) (k := 3) (by rw [Int.natAbs_mul]; exact mul_lt_pow hcc hcc) (by decide) (by decide)
    have hnil : eqD (scD []) (.list []) = some (.bool true) := eqD_nil (k := 1) rfl (by decide)
    unfold F__law_draw
    simp only [B__law_draw]
    simp [setD_0, hnil, m1, m2, hL, hd, show Nat.log2 3 < 9000 by decide]
  · have hpos : 0 < ns.length := List.length_pos_iff.mpr hns
    have hnil : eqD (scD ns) (.list []) = some (.bool false) := by
      have := eqD_nil (ds := ns.map PyData.int) (k := 1) (flts_ints ns) (by decide)
      unfold scD
      rw [this]
      cases ns with
      | nil => exact absurd rfl hns
      | cons _ _ => rfl
    obtain ⟨i, hi, hi2⟩ : ∃ i : Nat, ((c : Int) + 1) % (ns.length : Int) = (i : Int) ∧ i < ns.length := by
      have h1 := Int.emod_nonneg ((c : Int) + 1) (show (ns.length : Int) ≠ 0 by omega)
      have h2 := Int.emod_lt_of_pos ((c : Int) + 1) (show (0 : Int) < (ns.length : Int) by omega)
      exact ⟨(((c : Int) + 1) % (ns.length : Int)).toNat, by omega, by omega⟩
    have hlen : lenD [scD ns] = some (.int ns.length) := by unfold scD; simp
    have hat := atI_ints (ns := ns) hi2
    have hats : ixD (scD ns) (.int (i : Int)) = some (.int (ns.getD i 0)) := hat
    have hatz := fun c0 : Dt => atI_s (c := c0) (zs := zs) (i := i) (by omega)
    have hset := fun d : Int => setD_s (c := PyData.int ((c : Int) + 1)) (zs := zs) (d := d) (i := i) (by omega)
    have hp18 : powD (.int 10) (.int 18) = some (.int (10 ^ 18)) := powD_i (a := 10) (b := 18) (by decide) (by decide)
    by_cases hbig : (1000000000000000000 : Int) ≤ ns.getD i 0 ∧ 0 < zs.getD i 0
    · obtain ⟨d, hd, hd2⟩ := hm (zs.getD i 0)
      refine ⟨d, .int ((c : Int) + 1) :: (zs.set i (zs.getD i 0 / (L : Int))).map PyData.int, ?_, hd2, c + 1, _, rfl, by rw [List.length_set]; exact hz, by omega⟩
      unfold F__law_draw
      simp only [B__law_draw]
      simp only [List.getD_eq_getElem?_getD] at hats hatz hset hbig hd ⊢
      simp [setD_0, hnil, hlen, hpos, hi, hats, hatz, hset, hp18, hbig.1, hbig.2, hL, hLlog, hd]
    · have hb5 : ∀ x : Int, ∃ y : Nat, x % 4294967291 = (y : Int) ∧ y < 4294967291 := fun x => ⟨(x % 4294967291).toNat, by omega, by omega⟩
      obtain ⟨y, hy, hy2⟩ := hb5 (ns.getD i 0 + 104729 * ((c : Int) + 1))
      obtain ⟨z, hz1, hz2⟩ : ∃ z : Nat, ((y : Int) ^ 5) % 4294967279 = (z : Int) ∧ z < 4294967279 := ⟨(((y : Int) ^ 5) % 4294967279).toNat, by omega, by omega⟩
      obtain ⟨d, hd, hd2⟩ := hm (((z : Int) / 64 * 69621 + z) % 4294967231 / 8)
      refine ⟨d, .int ((c : Int) + 1) :: zs.map PyData.int, ?_, hd2, c + 1, zs, rfl, hz, by omega⟩
      have m1 : mulOk 104729 ((c : Int) + 1) = true := mulOk_of (j := 20) (k := 20) (by decide) hcc (by decide)
      have m2 : mulOk ((z : Int) / 64) 69621 = true := mulOk_of (j := 33) (k := 20) (by
        have : ((z : Int) / 64).natAbs ≤ 4294967279 := by omega
        exact Nat.lt_of_le_of_lt this (by decide)) (by decide) (by decide)
      have hpw : powD (.int (y : Int)) (.int 5) = some (.int ((y : Int) ^ 5)) := powD_i (a := (y : Int)) (b := 5) (by
        have : (y : Int).natAbs ≤ 4294967291 := by omega
        exact Nat.lt_of_le_of_lt this (by decide)) (by decide)
      have hcnd : ∀ (ρ : Sl) (W : Tw), True := fun _ _ => trivial
      unfold F__law_draw
      simp only [B__law_draw]
      simp only [List.getD_eq_getElem?_getD] at hats hatz hbig hy ⊢
      by_cases hq : (1000000000000000000 : Int) ≤ ns[i]?.getD 0
      · have hq2 : ¬ (0 : Int) < zs[i]?.getD 0 := fun z => hbig ⟨hq, z⟩
        simp [setD_0, hnil, hlen, hpos, hi, hats, hatz, hp18, hq, hq2, m1, m2, hy, hpw, hz1, hL, hd, show Nat.log2 64 < 9000 by decide, show Nat.log2 8 < 9000 by decide]
      · simp [setD_0, hnil, hlen, hpos, hi, hats, hatz, hp18, hq, m1, m2, hy, hpw, hz1, hL, hd, show Nat.log2 64 < 9000 by decide, show Nat.log2 8 < 9000 by decide]
end Sx

namespace Sx
open PySem PySem.Spec PyProof.Rows L2 Mx
section
variable {ns : List Int}
theorem cL_tw {α : Type} {g : SG} {c : SB} {e : SE} {ρ0 : Sl} (enc : α → Dt) (b : Nat) (Q : α → Dt → Prop) : ∀ (xs : List α) (m : Nat) (ws : List Dt), Tn ns (m + b * xs.length) ws →
    (∀ x ∈ xs, ∀ m ws, Tn ns (m + b) ws → ∃ ρ1, g (enc x) ρ0 = some ρ1 ∧ ((∃ ws', c ρ1 (some ws) = .ok (false, some ws') ∧ Tn ns m ws') ∨ ∃ ws1 v ws', c ρ1 (some ws) = .ok (true, some ws1) ∧ e ρ1 (some ws1) = .ok (v, some ws') ∧ Q x v ∧ Tn ns m ws')) →
    ∃ (ys : List (α × Dt)) (ws' : List Dt), cL g c e ρ0 (xs.map enc) (some ws) = .ok (ys.map (·.2), some ws') ∧ (ys.map (·.1)).Sublist xs ∧ (∀ y ∈ ys, Q y.1 y.2) ∧ Tn ns m ws'
  | [], m, ws, t, _ => ⟨[], ws, rfl, .slnil, fun y hy => (by cases hy), t.mono (by omega)⟩
  | x :: xs, m, ws, t, h => by
    rw [List.length_cons, Nat.mul_succ, ← Nat.add_assoc] at t
    obtain ⟨ρ1, h1, h2⟩ := h x (by simp) _ ws t
    rw [List.map_cons]
    unfold cL
    simp only [h1]
    rcases h2 with ⟨ws', h3, t'⟩ | ⟨ws1, v, ws', h3, h4, hq, t'⟩
    · obtain ⟨ys, ws2, i1, i2, i3, i4⟩ := cL_tw enc b Q xs m ws' t' fun y hy => h y (List.mem_cons_of_mem _ hy)
      refine ⟨ys, ws2, ?_, i2.cons x, i3, i4⟩
      simp only [h3, nox_ok, Res.bind_ok, Bool.false_eq_true, if_false, i1]
    · obtain ⟨ys, ws2, i1, i2, i3, i4⟩ := cL_tw enc b Q xs m ws' t' fun y hy => h y (List.mem_cons_of_mem _ hy)
      refine ⟨(x, v) :: ys, ws2, ?_, ?_, ?_, i4⟩
      · simp only [h3, nox_ok, Res.bind_ok, if_true, h4, i1]; rfl
      · exact i2.cons_cons x
      · intro y hy
        rcases List.mem_cons.mp hy with z | z
        · rw [z]; exact hq
        · exact i3 y z
theorem cL_tw1 {α : Type} {g : SG} {e : SE} {ρ0 : Sl} (enc : α → Dt) (b : Nat) (Q : α → Dt → Prop) : ∀ (xs : List α) (m : Nat) (ws : List Dt), Tn ns (m + b * xs.length) ws →
    (∀ x ∈ xs, ∀ m ws, Tn ns (m + b) ws → ∃ ρ1 v ws', g (enc x) ρ0 = some ρ1 ∧ e ρ1 (some ws) = .ok (v, some ws') ∧ Q x v ∧ Tn ns m ws') →
    ∃ (ys : List (α × Dt)) (ws' : List Dt), cL g bYes e ρ0 (xs.map enc) (some ws) = .ok (ys.map (·.2), some ws') ∧ ys.map (·.1) = xs ∧ (∀ y ∈ ys, Q y.1 y.2) ∧ Tn ns m ws'
  | [], m, ws, t, _ => ⟨[], ws, rfl, rfl, fun y hy => (by cases hy), t.mono (by omega)⟩
  | x :: xs, m, ws, t, h => by
    rw [List.length_cons, Nat.mul_succ, ← Nat.add_assoc] at t
    obtain ⟨ρ1, v, ws', h1, h4, hq, t'⟩ := h x (by simp) _ ws t
    rw [List.map_cons]
    unfold cL
    simp only [h1]
    obtain ⟨ys, ws2, i1, i2, i3, i4⟩ := cL_tw1 enc b Q xs m ws' t' fun y hy => h y (List.mem_cons_of_mem _ hy)
    refine ⟨(x, v) :: ys, ws2, ?_, ?_, ?_, i4⟩
    · simp only [bYes_s, nox_ok, Res.bind_ok, if_true, h4, i1]; rfl
    · rw [List.map_cons, i2]
    · intro y hy
      rcases List.mem_cons.mp hy with z | z
      · rw [z]; exact hq
      · exact i3 y z
theorem fL_tw {α : Type} {g : SG} {body : SS} (enc : α → Dt) (b : Nat) (I : List α → Sl → Prop) (ys : List α)
    (h : ∀ pre x post ρ m ws, ys = pre ++ x :: post → I pre ρ → Tn ns (m + b) ws → ∃ ρ1 ρ2 ws', g (enc x) ρ = some ρ1 ∧ body ρ1 (some ws) = .nx ρ2 (some ws') ∧ I (pre ++ [x]) ρ2 ∧ Tn ns m ws') :
    ∀ (xs pre : List α) (ρ : Sl) (m : Nat) (ws : List Dt), ys = pre ++ xs → I pre ρ → Tn ns (m + b * xs.length) ws → ∃ ρ' ws', fL g body (xs.map enc) ρ (some ws) = .nx ρ' (some ws') ∧ I ys ρ' ∧ Tn ns m ws'
  | [], pre, ρ, m, ws, e, i, t => ⟨ρ, ws, rfl, by rw [e, List.append_nil]; exact i, t.mono (by omega)⟩
  | x :: xs, pre, ρ, m, ws, e, i, t => by
    rw [List.length_cons, Nat.mul_succ, ← Nat.add_assoc] at t
    obtain ⟨ρ1, ρ2, ws', h1, h2, h3, t'⟩ := h pre x xs ρ _ ws e i t
    obtain ⟨ρ', ws2, h4, h5, t2⟩ := fL_tw enc b I ys h xs (pre ++ [x]) ρ2 m ws' (by rw [e]; simp) h3 t'
    refine ⟨ρ', ws2, ?_, h5, t2⟩
    rw [List.map_cons, fL_cons, h1]
    simp only [h2, h4]
theorem pick_ok {cs : List Dt} {m : Nat} {ws : List Dt} {k : Bool} (hl : ns.length ≤ 63) (h0 : 0 < cs.length) (h1 : cs.length ≤ 1000) (t : Tn ns (m + 1) ws) :
    ∃ (v : Dt) (ws' : List Dt), F__law_pick [scD ns, if k then .list cs else .tuple cs] ws = .ok (v, ws') ∧ v ∈ cs ∧ Tn ns m ws' := by
  obtain ⟨d, ws', hd, hd2, t'⟩ := draw_ok (L := cs.length) hl h0 (Nat.lt_of_le_of_lt h1 (by decide)) t
  refine ⟨cs[d], ws', ?_, List.getElem_mem hd2, t'⟩
  have hat : atI cs (d : Int) = some cs[d] := by rw [atI_nat hd2, List.getElem?_eq_getElem hd2]
  unfold F__law_pick
  simp only [B__law_pick]
  cases k <;> simp [hd, hat]
theorem pick_nat {nums : List Nat} {m : Nat} {ws : List Dt} (hl : ns.length ≤ 63) (h0 : 0 < nums.length) (h1 : nums.length ≤ 1000) (t : Tn ns (m + 1) ws) :
    ∃ (v : Nat) (ws' : List Dt), F__law_pick [scD ns, .list (nums.map iD)] ws = .ok (iD v, ws') ∧ v ∈ nums ∧ Tn ns m ws' := by
  obtain ⟨v, ws', h, hv, t'⟩ := pick_ok (k := true) (cs := nums.map iD) hl (by simpa using h0) (by simpa using h1) t
  obtain ⟨n, hn, rfl⟩ := List.mem_map.mp hv
  exact ⟨n, ws', h, hn, t'⟩
theorem pairs_ok {n M m : Nat} {nums : List Nat} {ws : List Dt} (hl : ns.length ≤ 63) (hn1 : 1 ≤ n) (hn : n ≤ 5) (h0 : 0 < nums.length) (h1 : nums.length ≤ 1000) (hM : ∀ x ∈ nums, 1 ≤ x ∧ x ≤ M) (t : Tn ns (m + 11) ws) :
    ∃ (ps : List (Nat × Nat)) (ws' : List Dt), F__law_pairs [scD ns, iD n, .list (nums.map iD)] ws = .ok (prs ps, ws') ∧ ps ≠ [] ∧ POk n M ps ∧ Tn ns m ws' := by
  have t0 : Tn ns ((m + 6) + 1 * (List.range n).length) ws := t.mono (by simp; omega)
  obtain ⟨ys, ws1, c1, c2, c3, c4⟩ := cL_tw (ns := ns) (g := gN 5) (c := cC__law_pairs_1) (e := cE__law_pairs_1) (ρ0 := [some (.d (scD ns)), some .town, some (.d (iD n)), some (.d (.list (nums.map iD))), none, none]) iD 1 (fun x v => v = iD x) (List.range n) (m + 6) ws t0 (by
    intro x hx m ws t
    obtain ⟨d, ws', hd, hd2, t'⟩ := draw_ok (L := 2) hl (by decide) (by decide) t
    have hd : F__law_draw [scD ns, .int 2] ws = .ok (iD d, ws') := hd
    refine ⟨_, by simp; rfl, ?_⟩
    by_cases hz : d = 0
    · exact .inr ⟨ws', iD x, ws', by simp [cC__law_pairs_1, hd, hz], by simp [cE__law_pairs_1], rfl, t'⟩
    · exact .inl ⟨ws', by simp [cC__law_pairs_1, hd, show ¬ d = 0 from hz], t'⟩)
  have hys : ys.map (·.2) = (ys.map (·.1)).map iD := by
    rw [List.map_map]
    exact List.map_congr_left fun y hy => c3 y hy
  rw [hys] at c1
  generalize ys.map (·.1) = sub at c1 c2
  have hsub : ∃ (sub2 : List Nat) (ws2 : List Dt), sub2 ≠ [] ∧ sub2.length ≤ 5 ∧ (∀ x ∈ sub2, x < n) ∧ sub2.Pairwise (· < ·) ∧ Tn ns (m + 5) ws2 ∧
      sIf (bOf (eBin eqD (eVar 4) (eFrz (lLst aNil)))) (sAsg 4 (eFrz (lLst (aCons (eCallT 1 F__law_draw (eVar 0) 1 (aCons (eVar 2) aNil)) aNil)))) sPass [some (.d (scD ns)), some .town, some (.d (iD n)), some (.d (.list (nums.map iD))), some (.d (.list (sub.map iD))), none] (some ws1) = .nx [some (.d (scD ns)), some .town, some (.d (iD n)), some (.d (.list (nums.map iD))), some (.d (.list (sub2.map iD))), none] (some ws2) := by
    have hnil := eqD_nil (ds := sub.map iD) (k := 1) (flts_map fun _ _ => rfl) (by decide)
    by_cases hs : sub = []
    · subst hs
      obtain ⟨d, ws', hd, hd2, t'⟩ := draw_ok (L := n) (m := m + 5) hl (by omega) (by
        have : (5 : Nat) < 2 ^ 64 := by decide
        omega) (c4.mono (by omega))
      refine ⟨[d], ws', by simp, by simp, by simpa using hd2, by simp, t', ?_⟩
      simp at hnil
      simp [hnil, hd]
    · refine ⟨sub, ws1, hs, ?_, fun x hx => List.mem_range.mp (c2.subset hx), List.Pairwise.sublist c2 List.pairwise_lt_range, c4.mono (by omega), ?_⟩
      · have := c2.length_le
        rw [List.length_range] at this
        omega
      · have : (sub.map iD).isEmpty = false := by cases sub with
          | nil => exact absurd rfl hs
          | cons _ _ => rfl
        rw [this] at hnil
        rw [sIf_s, bOf_s, eBin_s]
        simp only [eVar_s, eFrz_s, lLst_s, aNil_s]
        simp [hnil]
  obtain ⟨sub2, ws2, s1, s2, s3, s4, s5, s6⟩ := hsub
  obtain ⟨zs, ws3, d1, d2, d3, d4⟩ := cL_tw1 (ns := ns) (g := gN 5) (e := cE__law_pairs_2) (ρ0 := [some (.d (scD ns)), some .town, some (.d (iD n)), some (.d (.list (nums.map iD))), some (.d (.list (sub2.map iD))), none]) iD 1 (fun x v => ∃ p ∈ nums, v = pr (x, p)) sub2 m ws2 (s5.mono (by omega)) (by
    intro x hx m ws t
    obtain ⟨v, ws', hv, hv2, t'⟩ := pick_nat hl h0 h1 t
    refine ⟨_, pr (x, v), ws', by simp; rfl, ?_, ⟨v, hv2, rfl⟩, t'⟩
    simp [cE__law_pairs_2, hv]
    rfl)
  have hex : ∃ ps : List (Nat × Nat), zs.map (·.2) = ps.map pr ∧ ps.map (·.1) = sub2 ∧ ∀ p ∈ ps, p.2 ∈ nums := by
    subst d2
    clear d1 s6 s4 s3 s2 s1
    induction zs with
    | nil => exact ⟨[], rfl, rfl, fun p hp => by cases hp⟩
    | cons z zs ih =>
      obtain ⟨ps, q1, q2, q3⟩ := ih fun y hy => d3 y (List.mem_cons_of_mem _ hy)
      obtain ⟨p, hp, e⟩ := d3 z (by simp)
      refine ⟨(z.1, p) :: ps, by rw [List.map_cons, List.map_cons, q1, e], by rw [List.map_cons, List.map_cons, q2], fun r hr => ?_⟩
      rcases List.mem_cons.mp hr with y | y
      · rw [y]; exact hp
      · exact q3 r y
  obtain ⟨ps, q1, q2, q3⟩ := hex
  refine ⟨ps, ws3, ?_, ?_, ⟨fun p hp => ?_, ?_⟩, d4⟩
  · rw [q1] at d1
    unfold F__law_pairs
    simp only [B__law_pairs]
    have e1 : sAsg 4 (eFrz (lComp (iRng (aCons (eVar 2) aNil)) (gN 5) cC__law_pairs_1 cE__law_pairs_1 [5])) [some (.d (scD ns)), some .town, some (.d (iD n)), some (.d (.list (nums.map iD))), none, none] (some ws) = .nx [some (.d (scD ns)), some .town, some (.d (iD n)), some (.d (.list (nums.map iD))), some (.d (.list (sub.map iD))), none] (some ws1) := by
      have hr := rngOf_n (n := n) (by omega)
      simp [hr, wipeOk, show n ≤ 100000 by omega, c1]
    have e0 : startT 6 [scD ns, iD n, .list (nums.map iD)] = [some (.d (scD ns)), some .town, some (.d (iD n)), some (.d (.list (nums.map iD))), none, none] := rfl
    rw [runT_s, e0, sSeq_s, e1]
    simp only
    rw [sSeq_s, s6]
    simp [wipeOk, show sub2.length ≤ 100000 by omega, d1]
    rfl
  · intro z
    subst z
    exact s1 q2.symm
  · have hm := q3 p hp
    exact ⟨s3 p.1 (by rw [← q2]; exact List.mem_map.mpr ⟨p, hp, rfl⟩), hM p.2 hm⟩
  · rw [← q2, List.pairwise_map] at s4
    exact s4
end
end Sx

namespace Sx
open PySem PySem.Spec PyProof.Rows L2 Mx
section
variable {ns : List Int}
theorem rung_loop {n kk m : Nat} {fz : Int} {w : List (Nat × Nat)} {ws : List Dt} (hl : ns.length ≤ 63) (hw : ∀ p ∈ w, 1 ≤ p.2 ∧ p.2 ≤ 20) (hlen : w.length ≤ 5) (t : Tn ns (m + 2 * w.length) ws) :
    ∃ (cs : List (Nat × Nat)) (a b : Option SV) (ws' : List Dt), fL (gTu 2 (gsCons (gN 7) (gsCons (gN 8) gsNil))) lB__law_rung_1 (w.map pr) [some (.d (scD ns)), some .town, some (.d (iD n)), some (.d (iD kk)), some (.d (prs w)), some (.d (.int fz)), some (.own []), none, none] (some ws) = .nx [some (.d (scD ns)), some .town, some (.d (iD n)), some (.d (iD kk)), some (.d (prs w)), some (.d (.int fz)), some (.own (cs.map pr)), a, b] (some ws') ∧
      (cs.map (·.1)).Sublist (w.map (·.1)) ∧ (∀ p ∈ cs, 1 ≤ p.2 ∧ p.2 ≤ 999 ∧ (p.1 : Int) ≠ fz) ∧ Tn ns m ws' := by
  have key := fL_tw (ns := ns) (g := gTu 2 (gsCons (gN 7) (gsCons (gN 8) gsNil))) (body := lB__law_rung_1) pr 2
    (fun pre ρ => ∃ cs a b, ρ = [some (.d (scD ns)), some .town, some (.d (iD n)), some (.d (iD kk)), some (.d (prs w)), some (.d (.int fz)), some (.own (cs.map pr)), a, b] ∧ (cs.map (·.1)).Sublist (pre.map (·.1)) ∧ (∀ p ∈ cs, 1 ≤ p.2 ∧ p.2 ≤ 999 ∧ (p.1 : Int) ≠ fz)) w (by
      rintro pre x post ρ m ws e ⟨cs, a, b, rfl, hsub, hcs⟩ t
      have hx : x ∈ w := by rw [e]; simp
      obtain ⟨hx1, hx2⟩ := hw x hx
      have hcl : cs.length ≤ 5 := by
        have h1 := hsub.length_le
        rw [List.length_map, List.length_map] at h1
        have h2 : pre.length ≤ w.length := by rw [e, List.length_append]; omega
        omega
      have hsub2 : (cs.map (·.1)).Sublist ((pre ++ [x]).map (·.1)) := by
        rw [List.map_append]
        exact hsub.trans (List.sublist_append_left _ _)
      have hg : gTu 2 (gsCons (gN 7) (gsCons (gN 8) gsNil)) (pr x) [some (.d (scD ns)), some .town, some (.d (iD n)), some (.d (iD kk)), some (.d (prs w)), some (.d (.int fz)), some (.own (cs.map pr)), a, b] = some [some (.d (scD ns)), some .town, some (.d (iD n)), some (.d (iD kk)), some (.d (prs w)), some (.d (.int fz)), some (.own (cs.map pr)), some (.d (iD x.1)), some (.d (iD x.2))] := by simp
      by_cases hf : (x.1 : Int) = fz
      · refine ⟨_, [some (.d (scD ns)), some .town, some (.d (iD n)), some (.d (iD kk)), some (.d (prs w)), some (.d (.int fz)), some (.own (cs.map pr)), some (.d (iD x.1)), some (.d (iD x.2))], ws, hg, ?_, ⟨cs, _, _, rfl, hsub2, hcs⟩, t.mono (by omega)⟩
        simp [lB__law_rung_1, hf]
      · obtain ⟨d, ws1, hd, hd2, t1⟩ := draw_ok (L := 4) (m := m + 1) hl (by decide) (by decide) t
        have hd : F__law_draw [scD ns, .int 4] ws = .ok (iD d, ws1) := hd
        by_cases hz : d = 0
        · refine ⟨_, [some (.d (scD ns)), some .town, some (.d (iD n)), some (.d (iD kk)), some (.d (prs w)), some (.d (.int fz)), some (.own (cs.map pr)), some (.d (iD x.1)), some (.d (iD x.2))], ws1, hg, ?_, ⟨cs, _, _, rfl, hsub2, hcs⟩, t1.mono (by omega)⟩
          simp [lB__law_rung_1, hf, hd, hz]
        · obtain ⟨v, ws2, hv, hv2, t2⟩ := pick_nat (nums := [1, 2, 3, 5, 10, 20, 5 * x.2]) hl (by simp) (by simp) t1
          have hm : mulOk 5 (x.2 : Int) = true := mulOk_of (j := 3) (k := 5) (by decide) (by rw [Int.natAbs_natCast]; omega) (by decide)
          have hvv : 1 ≤ v ∧ v ≤ 999 := by
            simp at hv2
            omega
          have hv : F__law_pick [scD ns, .list [.int 1, .int 2, .int 3, .int 5, .int 10, .int 20, .int (5 * (x.2 : Int))]] ws1 = .ok (iD v, ws2) := by
            have e : ([1, 2, 3, 5, 10, 20, 5 * x.2] : List Nat).map iD = [.int 1, .int 2, .int 3, .int 5, .int 10, .int 20, .int (5 * (x.2 : Int))] := by simp [iD]
            rw [e] at hv
            exact hv
          refine ⟨_, [some (.d (scD ns)), some .town, some (.d (iD n)), some (.d (iD kk)), some (.d (prs w)), some (.d (.int fz)), some (.own ((cs ++ [(x.1, v)]).map pr)), some (.d (iD x.1)), some (.d (iD x.2))], ws2, hg, ?_, ⟨cs ++ [(x.1, v)], _, _, rfl, ?_, ?_⟩, t2⟩
          · have hlt : (cs.map pr).length < 100000 := by rw [List.length_map]; omega
            have hdp : (0 : Int) < (d : Int) := by omega
            simp only [lB__law_rung_1]
            simp [hf, hd, hdp, hm, hv, show 0 < d by omega, show cs.length < 100000 by omega]
            rfl
          · rw [List.map_append, List.map_append]
            exact hsub.append (List.Sublist.refl _)
          · intro p hp
            rcases List.mem_append.mp hp with z | z
            · exact hcs p z
            · rw [List.mem_singleton.mp z]
              exact ⟨hvv.1, hvv.2, hf⟩) w [] [some (.d (scD ns)), some .town, some (.d (iD n)), some (.d (iD kk)), some (.d (prs w)), some (.d (.int fz)), some (.own []), none, none] m ws rfl ⟨[], none, none, rfl, .slnil, fun p hp => by cases hp⟩ t
  obtain ⟨ρ', ws', h1, ⟨cs, a, b, rfl, h2, h3⟩, t'⟩ := key
  exact ⟨cs, a, b, ws', h1, h2, h3, t'⟩
theorem rung_draw {n m kk : Nat} {ws : List Dt} (hl : ns.length ≤ 63) (hn1 : 1 ≤ n) (hn : n ≤ 5) (hk : kk ≤ 2) (t : Tn ns (m + 22) ws) :
    ∃ (r : Rung) (ws' : List Dt), F__law_rung [scD ns, iD n, iD kk] ws = .ok (rd r, ws') ∧ r.Ok n ∧ (kk = 2 → r.endless = true) ∧ Tn ns m ws' := by
  by_cases h0 : kk = 0
  · subst h0
    obtain ⟨ps, ws', h1, h2, h3, t'⟩ := pairs_ok (M := 999) (nums := [1, 2, 3, 5, 10, 20, 100, 999]) (m := m) hl hn1 hn (by decide) (by decide) (by decide) (t.mono (by omega))
    refine ⟨.fixed ps, ws', ?_, ⟨h2, h3⟩, fun z => (by cases z), t'⟩
    have h1 : F__law_pairs [scD ns, .int (n : Int), .list [.int 1, .int 2, .int 3, .int 5, .int 10, .int 20, .int 100, .int 999]] ws = .ok (prs ps, ws') := h1
    unfold F__law_rung
    simp only [B__law_rung]
    simp [h1, rd]
  · obtain ⟨w, ws1, h1, h2, h3, t1⟩ := pairs_ok (M := 20) (nums := [1, 1, 2, 3, 4, 20]) (m := m + 11) hl hn1 hn (by decide) (by decide) (by decide) (t.mono (by omega))
    have h1 : F__law_pairs [scD ns, .int (n : Int), .list [.int 1, .int 1, .int 2, .int 3, .int 4, .int 20]] ws = .ok (prs w, ws1) := h1
    have hlw := pok_len h3
    have hfree : ∃ (fz : Int) (ws2 : List Dt), eIf (bOf (eBin eqD (eVar 3) (eC (.int 2)))) (eBin ixD (eCallT 1 F__law_pick (eVar 0) 1 (aCons (eVar 4) aNil)) (eC (.int 0))) (eUn negD (eC (.int 1))) [some (.d (scD ns)), some .town, some (.d (iD n)), some (.d (iD kk)), some (.d (prs w)), none, none, none, none] (some ws1) = .ok (.int fz, some ws2) ∧ (kk = 2 → ∃ p ∈ w, fz = (p.1 : Int)) ∧ Tn ns (m + 10) ws2 := by
      by_cases hk2 : kk = 2
      · subst hk2
        obtain ⟨v, ws2, hv, hv2, t2⟩ := pick_ok (k := false) (cs := w.map pr) (m := m + 10) hl (by rw [List.length_map]; exact List.length_pos_iff.mpr h2) (by rw [List.length_map]; omega) t1
        obtain ⟨p, hp, rfl⟩ := List.mem_map.mp hv2
        have hv : F__law_pick [scD ns, prs w] ws1 = .ok (pr p, ws2) := hv
        exact ⟨(p.1 : Int), ws2, by simp [hv], fun _ => ⟨p, hp, rfl⟩, t2⟩
      · exact ⟨-1, ws1, by simp [show ¬ (kk : Int) = 2 by omega], fun z => absurd z hk2, t1.mono (by omega)⟩
    obtain ⟨fz, ws2, f1, f2, t2⟩ := hfree
    obtain ⟨cs, a, b, ws3, l1, l2, l3, t3⟩ := rung_loop (n := n) (kk := kk) (m := m) (fz := fz) hl (fun p hp => (h3.el p hp).2) (by omega) (t2.mono (by omega))
    have hkey : ∀ p ∈ cs, ∃ q ∈ w, q.1 = p.1 := fun p hp => by
      have := l2.subset (List.mem_map.mpr ⟨p, hp, rfl⟩)
      obtain ⟨q, hq, e⟩ := List.mem_map.mp this
      exact ⟨q, hq, e⟩
    have hpk : POk n 999 cs := ⟨fun p hp => by
      obtain ⟨q, hq, e⟩ := hkey p hp
      exact ⟨by rw [← e]; exact (h3.el q hq).1, (l3 p hp).1, (l3 p hp).2.1⟩, by
      have := List.Pairwise.sublist l2 (List.pairwise_map.mpr h3.inc)
      exact List.pairwise_map.mp this⟩
    have hok : (Rung.shares w cs).Ok n := ⟨h2, h3, hpk, hkey⟩
    refine ⟨.shares w cs, ws3, ?_, hok, fun z => ?_, t3⟩
    · unfold F__law_rung
      simp only [B__law_rung]
      have e0 : startT 9 [scD ns, iD n, iD kk] = [some (.d (scD ns)), some .town, some (.d (iD n)), some (.d (iD kk)), none, none, none, none, none] := rfl
      have hkz : ¬ (kk : Int) = 0 := by omega
      rw [runT_s, e0]
      simp only [sSeq_s]
      rw [show sIf (bOf (eBin eqD (eVar 3) (eC (.int 0)))) (sRet (eTup (aCons (eC (.str "fixed")) (aCons (eCallT 2 F__law_pairs (eVar 0) 1 (aCons (eVar 2) (aCons (eFrz (lLst (aCons (eC (.int 1)) (aCons (eC (.int 2)) (aCons (eC (.int 3)) (aCons (eC (.int 5)) (aCons (eC (.int 10)) (aCons (eC (.int 20)) (aCons (eC (.int 100)) (aCons (eC (.int 999)) aNil)))))))))) aNil))) aNil)))) sPass [some (.d (scD ns)), some .town, some (.d (iD n)), some (.d (iD kk)), none, none, none, none, none] (some ws) = .nx [some (.d (scD ns)), some .town, some (.d (iD n)), some (.d (iD kk)), none, none, none, none, none] (some ws) by simp [h0]]
      simp only
      rw [show sAsg 4 (eCallT 2 F__law_pairs (eVar 0) 1 (aCons (eVar 2) (aCons (eFrz (lLst (aCons (eC (.int 1)) (aCons (eC (.int 1)) (aCons (eC (.int 2)) (aCons (eC (.int 3)) (aCons (eC (.int 4)) (aCons (eC (.int 20)) aNil)))))))) aNil))) [some (.d (scD ns)), some .town, some (.d (iD n)), some (.d (iD kk)), none, none, none, none, none] (some ws) = .nx [some (.d (scD ns)), some .town, some (.d (iD n)), some (.d (iD kk)), some (.d (prs w)), none, none, none, none] (some ws1) by simp [h1]]
      simp only
      rw [sAsg_s, f1]
      simp [l1, rd]
      rfl
    · obtain ⟨p, hp, e⟩ := f2 z
      refine decide_eq_true ((endless_iff hok).mpr ⟨p, hp, lk_none.mpr fun q hq e2 => (l3 q hq).2.2 ?_⟩)
      rw [e]; omega
theorem ladder_ok {most m : Nat} {ws : List Dt} (hl : ns.length ≤ 63) (h1 : 1 ≤ most) (h5 : most ≤ 5) (t : Tn ns (m + 100) ws) :
    ∃ (l : Lad) (ws' : List Dt), F__law_ladder [scD ns, iD most] ws = .ok (ld l, ws') ∧ l.Ok ∧ l.n ≤ most ∧ Tn ns m ws' := by
  obtain ⟨d, ws1, hd, hd2, t1⟩ := draw_ok (L := most) (m := m + 99) hl (by omega) (Nat.lt_of_le_of_lt h5 (by decide)) t
  obtain ⟨e, ws2, he, he2, t2⟩ := draw_ok (L := 4) (m := m + 98) hl (by decide) (by decide) t1
  have he : F__law_draw [scD ns, .int 4] ws1 = .ok (iD e, ws2) := he
  obtain ⟨n, hn⟩ : ∃ n, n = 1 + d := ⟨_, rfl⟩
  have hnD : (1 : Int) + (d : Int) = (n : Int) := by omega
  obtain ⟨ys, ws3, c1, c2, c3, c4⟩ := cL_tw1 (ns := ns) (g := gN 5) (e := cE__law_ladder_1) (ρ0 := [some (.d (scD ns)), some .town, some (.d (iD most)), some (.d (iD n)), none, none]) iD 23 (fun x v => ∃ r : Rung, v = rd r ∧ r.Ok n) (List.range e) (m + 22) ws2 (t2.mono (by simp; omega)) (by
    intro x hx m ws t
    obtain ⟨k, w1, q1, q2, t3⟩ := draw_ok (L := 2) (m := m + 22) hl (by decide) (by decide) t
    have q1 : F__law_draw [scD ns, .int 2] ws = .ok (iD k, w1) := q1
    obtain ⟨r, w2, r1, r2, _, t4⟩ := rung_draw (n := n) (kk := k) hl (by omega) (by omega) (by omega) t3
    refine ⟨_, rd r, w2, by simp; rfl, ?_, ⟨r, rfl, r2⟩, t4⟩
    simp [cE__law_ladder_1, q1, r1])
  obtain ⟨r, ws4, r1, r2, r3, t4⟩ := rung_draw (n := n) (kk := 2) (m := m) hl (by omega) (by omega) (by omega) c4
  have r1 : F__law_rung [scD ns, .int (n : Int), .int 2] ws3 = .ok (rd r, ws4) := r1
  have hex : ∃ rs : List Rung, ys.map (·.2) = rs.map rd ∧ rs.length = ys.length ∧ ∀ q ∈ rs, q.Ok n := by
    clear c1 c2
    induction ys with
    | nil => exact ⟨[], rfl, rfl, fun p hp => by cases hp⟩
    | cons z zs ih =>
      obtain ⟨rs, q1, q2, q3⟩ := ih fun y hy => c3 y (List.mem_cons_of_mem _ hy)
      obtain ⟨q, e, hq⟩ := c3 z (by simp)
      refine ⟨q :: rs, by rw [List.map_cons, List.map_cons, q1, e], by rw [List.length_cons, List.length_cons, q2], fun r hr => ?_⟩
      rcases List.mem_cons.mp hr with y | y
      · rw [y]; exact hq
      · exact q3 r y
  obtain ⟨rs, q1, q2, q3⟩ := hex
  have hlen : rs.length ≤ 3 := by
    have := congrArg List.length c2
    rw [List.length_map, List.length_range] at this
    omega
  rw [q1] at c1
  refine ⟨⟨n, rs ++ [r]⟩, ws4, ?_, ⟨by show 1 ≤ n; omega, by show n ≤ 5; omega, by simp, by simp; omega, fun q hq => ?_, r, by simp, r3 rfl⟩, by show n ≤ most; omega, t4⟩
  · have hadd : addD (.tuple (rs.map rd)) (.tuple [rd r]) = some (.tuple ((rs ++ [r]).map rd)) := by
      show (if (rs.map rd).length + [rd r].length ≤ 100000 then some (PyData.tuple (rs.map rd ++ [rd r])) else none) = _
      rw [if_pos (by simp; omega), List.map_append]; rfl
    unfold F__law_ladder
    simp only [B__law_ladder]
    have hr := rngOf_n (n := e) (by omega)
    simp [hd, hnD, he, hr, wipeOk, show e ≤ 100000 by omega, c1, r1, hadd, ld]
  · rcases List.mem_append.mp hq with z | z
    · exact q3 q z
    · rw [List.mem_singleton.mp z]; exact r2
end
end Sx

namespace Sx
open PySem PySem.Spec PyProof.Rows L2 Mx
theorem sSeq_ex {a b : SS} {ρ ρ1 : Sl} {W W1 : Tw} {r : SV} (h : a ρ W = .nx ρ1 W1) (k : ∃ W', b ρ1 W1 = .rt r W') : ∃ W', sSeq a b ρ W = .rt r W' := by
  obtain ⟨W', k⟩ := k
  exact ⟨W', by rw [sSeq_s, h]; exact k⟩
theorem runP_ex {m : Nat} {B : SS} {ds : List Dt} {x : Dt} (h : ∃ W', B (start0 m ds) none = .rt (.d x) W') : runP m B ds = .ok x := by
  obtain ⟨W', h⟩ := h
  rw [runP_s, h]
end Sx

namespace Mx
end Mx
namespace Sx
open PySem PySem.Spec PyProof.Rows L2 Mx
@[simp] theorem shaped_bool {b : Bool} : SeqAt.shaped (.bool b) = true := shaped_flt (k := 0) rfl (by decide)
@[simp] theorem eqD_b {a b : Bool} : eqD (.bool a) (.bool b) = some (.bool (a == b)) := by
  cases a <;> cases b <;> rfl
@[simp] theorem neD_b {a b : Bool} : neD (.bool a) (.bool b) = some (.bool (!(a == b))) := by
  cases a <;> cases b <;> rfl
@[simp] theorem addD_ll {a b : List Dt} : addD (.list a) (.list b) = if a.length + b.length ≤ 100000 then some (.list (a ++ b)) else none := rfl
@[simp] theorem addD_tt {a b : List Dt} : addD (.tuple a) (.tuple b) = if a.length + b.length ≤ 100000 then some (.tuple (a ++ b)) else none := rfl
end Sx

namespace Mx
/-! signs of a difference, directly after an amount -/
def sgn (q : Rat) : Int := if 0 < q then 1 else if q < 0 then -1 else 0
/-- the sign directly after an amount -/
def RS (D : Rat → Rat) (x : Rat) (s : Int) : Prop := ∃ e, x < e ∧ ∀ y, x < y → y < e → sgn (D y) = s
/-! lists of signs -/
end Mx

namespace Mx
/-- lines between neighbouring starts -/
def PL (D : Rat → Rat) (S : List Rat) : Prop := ∀ m n : Rat, 0 ≤ m → m < n → (∀ s ∈ S, s ≤ m ∨ n ≤ s) → ∃ σ, ∀ y, m ≤ y → y ≤ n → D y = D m + σ * (y - m)
/-! what lists of signs say -/
/-! where two ladders part -/
def PT (D : Nat → Rat → Rat) (n : Nat) : Option Rat → Prop
  | none => ∀ h, h < n → ∀ x, 0 ≤ x → RS (D h) x 0
  | some t => 0 ≤ t ∧ (∀ h, h < n → ∀ x, 0 ≤ x → x < t → RS (D h) x 0) ∧ ∃ h, h < n ∧ ∃ s, s ≠ 0 ∧ RS (D h) t s
end Mx

namespace Sx
open PySem PySem.Spec PyProof.Rows L2 Mx
/-! slices -/
theorem cutD_take {ds : List Dt} {n : Nat} : cutD ds none (some (n : Int)) = ds.take n := by
  unfold cutD
  rw [HT.sIx_nat, HT.sIx_none, List.drop_zero, Nat.sub_zero]
  by_cases h : n ≤ ds.length
  · rw [Nat.min_eq_left h]
  · rw [Nat.min_eq_right (by omega), List.take_of_length_le (by omega), List.take_of_length_le (by omega)]
@[simp] theorem slice_l {ds : List Dt} {lo hi} : sliceD (.list ds) lo hi = some (.list (cutD ds lo hi)) := rfl
@[simp] theorem slice_t {ds : List Dt} {lo hi} : sliceD (.tuple ds) lo hi = some (.tuple (cutD ds lo hi)) := rfl
/-! signs -/
@[simp] theorem intD_b {b : Bool} : intD [.bool b] = some (.int (if b then 1 else 0)) := rfl
/-! the rate after an amount, by rows -/
/-! in order -/
end Sx

namespace Mx
/-! of two ladders -/
abbrev DD (l1 l2 : Lad) (h : Nat) (x : Rat) : Rat := l2.T x h - l1.T x h
end Mx
namespace Sx
open PySem PySem.Spec PyProof.Rows L2 Mx
@[simp] theorem isD_tt : isD (.bool true) (.bool true) = some (.bool true) := by rfl
/-! points between starts -/
end Sx

namespace Sx
open PySem PySem.Spec PyProof.Rows L2



def cE_pay_rungs_1 : SA :=
    (lBin mulL (eFrz (lLst (aCons (eC (PyData.tuple [.int 0, .int 1])) aNil))) (eBin ixD (eVar 0) (eC (.int 0))))
def lB_pay_rungs_3 : SS :=
    (sSet3 2 (eVar 4) (eVar 8) (eCall 2 F_plus (aCons (eIx2 2 (eVar 4) (eVar 8)) (aCons (eCall 2 F_product (aCons (eVar 7) (aCons (eVar 9) aNil))) aNil))))
def lB_pay_rungs_2 : SS :=
    (sSeq (sAsg 7 (eIf (bOf (eBin isD (eVar 5) (eC .none))) (eVar 3) (eCall 2 F_lesser (aCons (eVar 3) (aCons (eVar 5) aNil)))))
    (sSeq (sAsg 3 (eCall 2 F_minus (aCons (eVar 3) (aCons (eVar 7) aNil))))
    (sFor (iEnum' (aCons (eVar 6) aNil)) (gTu 2 (gsCons (gN 8) (gsCons (gN 9) gsNil))) lB_pay_rungs_3)))
def cE_pay_rungs_4 : SE :=
    (eCB tupleD (aCons (eVar 11) aNil))
def B_pay_rungs : SS :=
    (sSeq (sExpr (eCall 1 F_check_ladder (aCons (eVar 0) aNil)))
    (sSeq (sExpr (eCall 1 F_check_amount (aCons (eVar 1) aNil)))
    (sSeq (sOw2 2 (iSeq (eBin ixD (eVar 0) (eC (.int 1)))) (gN 10) cE_pay_rungs_1 [10])
    (sSeq (sAsg 3 (eVar 1))
    (sSeq (sFor (iSeq (eCall 1 F_pieces_of (aCons (eVar 0) aNil))) (gTu 3 (gsCons (gN 4) (gsCons (gN 5) (gsCons (gN 6) gsNil)))) lB_pay_rungs_2)
    (fun ρ W => (sRet (eCB tupleD (aCons (eFrz (lComp (iSeq (eVar 2)) (gN 11) bYes cE_pay_rungs_4 [11])) aNil))) (frz2 2 ρ) W))))))
def F_pay_rungs := runP 12 B_pay_rungs

end Sx

namespace Mx
/-! what each rung pays, piece by piece -/
end Mx
namespace Sx
open PySem PySem.Spec PyProof.Rows L2 Mx
section
variable {ρ : Sl} {W : Tw} {i : Nat} {e k l : SE}
@[simp] theorem sOw2_s {it : SA} {g : SG} {f : SA} {vs} : sOw2 i it g f vs ρ W = rOut (it ρ W) fun ds W1 => if ds.length ≤ 100000 ∧ wipeOk ρ vs = true ∧ i < ρ.length then
    rOut (nox (cL2 g f (wipeS ρ vs) ds W1)) fun rows W2 => .nx (ρ.set i (some (.ow2 rows))) W2 else .bad := rfl
@[simp] theorem eIx2_s : eIx2 i k l ρ W = (match ρ[i]? with
  | some (some (.ow2 rows)) => (k ρ W).bind fun p => (ofO (rowAt rows p.1) p.2).bind fun r => (l ρ r.2).bind fun q => ofO (ixD (.list r.1) q.1) q.2
  | _ => .bad) := rfl
@[simp] theorem sSet3_s : sSet3 i k l e ρ W = (match ρ[i]? with
  | some (some (.ow2 rows)) => rOut (e ρ W) fun d W1 => rOut (k ρ W1) fun kd W2 => rOut (ofO (rowAt rows kd) W2) fun r W3 => rOut (l ρ W3) fun ld W4 => nx2 i (setD r ld d) rows kd ρ W4
  | _ => .bad) := rfl
@[simp] theorem nx2_some {r : List Dt} {rows : List (List Dt)} {kd : Dt} : nx2 i (some r) rows kd ρ W = .nx (ρ.set i (some (.ow2 (putRow rows kd r)))) W := rfl
@[simp] theorem frz2_s : frz2 i ρ = (match ρ[i]? with
  | some (some (.ow2 rows)) => ρ.set i (some (.d (.list (rows.map PyData.list))))
  | _ => ρ) := rfl
end
end Sx

namespace Sx
open PySem PySem.Spec PyProof.Rows L2


def cC_extreme_1 (fx : Str) (fg : List Dt → Res Dt) : SB :=
    (bOf (eCall 2 F_is_less (aCons (eVar 2) (aCons (eBin ixD (eVar 10) (eC (.int 0))) aNil))))
def cE_extreme_1 (fx : Str) (fg : List Dt → Res Dt) : SE :=
    (eBin ixD (eVar 10) (eC (.int 0)))
def lB_extreme_2 (fx : Str) (fg : List Dt → Res Dt) : SS :=
    (sSeq (sAsg 9 (eCall 2 F_quotient (aCons (eCall 2 F_payment_at (aCons (eVar 4) (aCons (eVar 8) aNil))) (aCons (eVar 8) aNil))))
    (sIf (bOr (bOf (eBin isD (eVar 6) (eC .none))) (bOf (eCallF 3 fx 2 fg (aCons (eVar 9) (aCons (eVar 6) aNil))))) (sPar [6, 7] (mD (eVar 9) (mD (eVar 8) mNil))) sPass))
def B_extreme (fx : Str) (fg : List Dt → Res Dt) : SS :=
    (sSeq (sExpr (eCall 1 F_check_ladder (aCons (eVar 0) aNil)))
    (sSeq (sExpr (eCall 2 F_check_holder (aCons (eVar 0) (aCons (eVar 1) aNil))))
    (sSeq (sExpr (eCall 1 F_check_amount (aCons (eVar 2) aNil)))
    (sSeq (sIf (bOf (eBin eqD (eBin ixD (eVar 2) (eC (.int 0))) (eC (.int 0)))) sNever sPass)
    (sSeq (sAsg 4 (eCall 2 F_found_bends (aCons (eVar 0) (aCons (eVar 1) aNil))))
    (sSeq (sAsg 5 (eCall 1 F_in_order (aCons (eBin addD (eFrz (lLst (aCons (eVar 2) aNil))) (eFrz (lComp (iSeq (eVar 4)) (gN 10) (cC_extreme_1 fx fg) (cE_extreme_1 fx fg) [10]))) aNil)))
    (sSeq (sPar [6, 7] (mD (eC .none) (mD (eC .none) mNil)))
    (sSeq (sFor (iSeq (eVar 5)) (gN 8) (lB_extreme_2 fx fg))
    (sSeq (sIf (bOf (eCallF 3 fx 2 fg (aCons (eBin ixD (eBin ixD (eVar 4) (eUn negD (eC (.int 1)))) (eC (.int 2))) (aCons (eVar 6) aNil)))) (sPar [6, 7] (mD (eBin ixD (eBin ixD (eVar 4) (eUn negD (eC (.int 1)))) (eC (.int 2))) (mD (eC .none) mNil))) sPass)
    (sRet (eTup (aCons (eVar 6) (aCons (eVar 7) aNil)))))))))))))
def F_extreme (fx : Str) (fg : List Dt → Res Dt) := runF 11 fx (B_extreme fx fg)

def F_lam_greatest_part : List Dt → Res Dt := runE 2 (eCall 2 F_is_less (aCons (eVar 1) (aCons (eVar 0) aNil)))
def B_greatest_part : SS :=
    (sRet (eCall 3 (F_extreme "greatest_part" F_lam_greatest_part) (aCons (eVar 0) (aCons (eVar 1) (aCons (eVar 2) aNil)))))
def F_greatest_part := runP 3 B_greatest_part

def F_lam_least_part : List Dt → Res Dt := runE 2 (eCall 2 F_is_less (aCons (eVar 0) (aCons (eVar 1) aNil)))
def B_least_part : SS :=
    (sRet (eCall 3 (F_extreme "least_part" F_lam_least_part) (aCons (eVar 0) (aCons (eVar 1) (aCons (eVar 2) aNil)))))
def F_least_part := runP 3 B_least_part

end Sx

namespace Sx
open PySem PySem.Spec PyProof.Rows L2 Mx
variable {i n : Nat} {ρ : Sl} {W : Tw}
@[simp] theorem eCallF_s {x : Str} {g : List Dt → Res Dt} {a : SA} : eCallF i x n g a ρ W = (match ρ[i]? with | some (some (.fn y)) => if y = x then eCall n g a ρ W else .bad | _ => .bad) := rfl
@[simp] theorem startFn_s {m : Nat} {x : Str} {ds : List Dt} : startFn m x ds = ds.map (fun y => some (SV.d y)) ++ some (.fn x) :: List.replicate (m - (ds.length + 1)) none := rfl
@[simp] theorem runF_s {m : Nat} {x : Str} {B : SS} {ds : List Dt} : runF m x B ds = (match B (startFn m x ds) none with | .rt (.d x) _ => .ok x | .nx _ _ => .ok .none | .exc c => .exc c | _ => .bad) := rfl
@[simp] theorem runE_s {m : Nat} {fe : SE} {ds : List Dt} : runE m fe ds = (match fe (start0 m ds) none with | .ok p => .ok p.1 | .exc c => .exc c | .bad => .bad) := rfl

end Sx

namespace Sx
open PySem PySem.Spec PyProof.Rows L2

def cC_with_choice_2 : SB :=
    (bOf (eBin notInD (eBin ixD (eVar 12) (eC (.int 0))) (eVar 2)))
def cE_with_choice_2 : SE :=
    (eVar 12)
def lB_with_choice_1 : SS :=
    (sSeq (sAsg 11 (eCB tupleD (aCons (eFrz (lComp (iSeq (eVar 5)) (gN 12) cC_with_choice_2 cE_with_choice_2 [12])) aNil)))
    (sAsg 3 (eBin addD (eVar 3) (eIf (bOf (eBin neD (eVar 11) (eTup aNil))) (eTup (aCons (eTup (aCons (eVar 4) (aCons (eVar 11) aNil))) aNil)) (eTup aNil)))))
def lB_with_choice_3 : SS :=
    (sIf (bOf (eBin inD (eVar 9) (eVar 2))) (sDput 8 (eVar 9) (eBin addD (eDget2 8 (eVar 9) (eC (.int 0))) (eVar 10))) sPass)
def cE_with_choice_4 : SE :=
    (eBin gtD (eDget 8 (eVar 9)) (eC (.int 20)))
def cE_with_choice_5 : SE :=
    (eTup (aCons (eVar 9) (aCons (eDget 8 (eVar 9)) aNil)))
def B_with_choice : SS :=
    (sSeq (sAsg 3 (eTup aNil))
    (sSeq (sFor (iSeq (eSlice (eBin ixD (eVar 0) (eC (.int 1))) oNone (oSome (eUn negD (eC (.int 1)))))) (gTu 2 (gsCons (gN 4) (gsCons (gN 5) gsNil))) lB_with_choice_1)
    (sSeq (sAsgG (gTu 3 (gsCons (gN 4) (gsCons (gN 6) (gsCons (gN 7) gsNil)))) (eBin ixD (eBin ixD (eVar 0) (eC (.int 1))) (eUn negD (eC (.int 1)))))
    (sSeq (sDk 8 (kDictT (eVar 6)))
    (sSeq (sFor (iSeq (eVar 1)) (gTu 2 (gsCons (gN 9) (gsCons (gN 10) gsNil))) lB_with_choice_3)
    (sSeq (sIf (bOf (eCB anyD (aCons (eFrz (lLock 8 (lComp (iDk 8) (gN 9) bYes cE_with_choice_4 [9]))) aNil))) sNever sPass)
    (sRet (eTup (aCons (eBin ixD (eVar 0) (eC (.int 0))) (aCons (eBin addD (eVar 3) (eTup (aCons (eTup (aCons (eVar 4) (aCons (eCB tupleD (aCons (eFrz (lComp (iSeq (eFrz (lSortDk 8))) (gN 9) bYes cE_with_choice_5 [9])) aNil)) (aCons (eVar 7) aNil)))) aNil))) aNil))))))))))
def F_with_choice := runP 13 B_with_choice

def cE_choices_of_2 : SE :=
    (eBin addD (eVar 4) (eTup (aCons (eVar 2) aNil)))
def lB_choices_of_1 : SS :=
    (sAsg 1 (eBin addD (eVar 1) (eFrz (lComp (iSeq (eVar 1)) (gN 4) bYes cE_choices_of_2 [4]))))
def cE_choices_of_4 : SE :=
    (eTup (aCons (eCB lenD (aCons (eVar 4) aNil)) (aCons (eVar 4) aNil)))
def cE_choices_of_3 : SE :=
    (eBin ixD (eVar 4) (eC (.int 1)))
def B_choices_of : SS :=
    (sSeq (sAsg 1 (eFrz (lLst (aCons (eTup aNil) aNil))))
    (sSeq (sFor (iSeq (eVar 0)) (gTu 2 (gsCons (gN 2) (gsCons (gN 3) gsNil))) lB_choices_of_1)
    (sRet (eFrz (lComp (iSeq (eFrz (lCB sortG (aCons (eFrz (lComp (iSeq (eVar 1)) (gN 4) bYes cE_choices_of_4 [4])) aNil)))) (gN 4) bYes cE_choices_of_3 [4])))))
def F_choices_of := runP 5 B_choices_of



def cE_check_choice_1 : SE :=
    (eVar 3)
def cE_check_choice_2 : SE :=
    (eAnd (eCall 3 F_is_between (aCons (eVar 3) (aCons (eC (.int 0)) (aCons (eC (.int 4)) aNil)))) (eBin inD (eVar 3) (eVar 2)))
def cE_check_choice_3 : SE :=
    (eBin ltD (eBin ixD (eVar 1) (eVar 5)) (eBin ixD (eVar 1) (eBin addD (eVar 5) (eC (.int 1)))))
def B_check_choice : SS :=
    (sSeq (sAsg 2 (eFrz (lComp (iSeq (eVar 0)) (gTu 2 (gsCons (gN 3) (gsCons (gN 4) gsNil))) bYes cE_check_choice_1 [3, 4])))
    (sSeq (sIf (bOr (bNot (bOf (eUn (isiD "tuple") (eVar 1)))) (bNot (bOf (eCB allD (aCons (eFrz (lComp (iSeq (eVar 1)) (gN 3) bYes cE_check_choice_2 [3])) aNil))))) sNever sPass)
    (sIf (bNot (bOf (eCB allD (aCons (eFrz (lComp (iRng (aCons (eBin subD (eCB lenD (aCons (eVar 1) aNil)) (eC (.int 1))) aNil)) (gN 5) bYes cE_check_choice_3 [5])) aNil)))) sNever sPass)))
def F_check_choice := runP 6 B_check_choice

def cC_is_stable_2 : SB :=
    (bOf (eBin neD (eVar 6) (eVar 3)))
def cE_is_stable_2 : SE :=
    (eVar 6)
def lB_is_stable_1 : SS :=
    (sSeq (sIf (bOf (eBin inD (eVar 3) (eVar 2))) (sAsg 5 (eCB tupleD (aCons (eFrz (lComp (iSeq (eVar 2)) (gN 6) cC_is_stable_2 cE_is_stable_2 [6])) aNil))) (sAsg 5 (eCB tupleD (aCons (eFrz (lCB sortT (aCons (eBin addD (eVar 2) (eTup (aCons (eVar 3) aNil))) aNil))) aNil))))
    (sIf (bOf (eCall 2 F_is_less (aCons (eBin ixD (eBin getT (eVar 0) (eVar 2)) (eVar 3)) (aCons (eBin ixD (eBin getT (eVar 0) (eVar 5)) (eVar 3)) aNil)))) (sRet (eC (.bool false))) sPass))
def B_is_stable : SS :=
    (sSeq (sFor (iSeq (eVar 1)) (gTu 2 (gsCons (gN 3) (gsCons (gN 4) gsNil))) lB_is_stable_1)
    (sRet (eC (.bool true))))
def F_is_stable := runP 7 B_is_stable

def cE_check_options_1 : SE :=
    (eVar 4)
def cI_check_options_1 : SA :=
    (iSeq (eBin ixD (eVar 3) (eC (.int 1))))
def cE_check_options_2 : SE :=
    (eBin notInD (eVar 4) (eVar 2))
def B_check_options : SS :=
    (sSeq (sIf (bNot (bOf (eCall 4 F_are_pairs (aCons (eBin ixD (eVar 0) (eC (.int 0))) (aCons (eVar 1) (aCons (eC (.int 20)) (aCons (eC (.int 0)) aNil))))))) sNever sPass)
    (sSeq (sAsg 2 (eFrz (lComp2 (iSeq (eSlice (eBin ixD (eVar 0) (eC (.int 1))) oNone (oSome (eUn negD (eC (.int 1)))))) (gN 3) cI_check_options_1 (gTu 2 (gsCons (gN 4) (gsCons (gN 5) gsNil))) cE_check_options_1 [3, 4, 5] [4, 5])))
    (sIf (bOf (eCB anyD (aCons (eFrz (lComp (iSeq (eVar 1)) (gTu 2 (gsCons (gN 4) (gsCons (gN 6) gsNil))) bYes cE_check_options_2 [4, 6])) aNil))) sNever sPass)))
def F_check_options := runP 7 B_check_options


def cE_check_simple_1 : SE :=
    (eBin neD (eBin ixD (eVar 1) (eC (.int 0))) (eC (.str "fixed")))
def B_check_simple : SS :=
    (sSeq (sExpr (eCall 1 F_check_ladder (aCons (eVar 0) aNil)))
    (sIf (bOf (eCB anyD (aCons (eFrz (lComp (iSeq (eSlice (eBin ixD (eVar 0) (eC (.int 1))) oNone (oSome (eUn negD (eC (.int 1)))))) (gN 1) bYes cE_check_simple_1 [1])) aNil))) sNever sPass))
def F_check_simple := runP 2 B_check_simple


def B_changed : SS :=
    (sSeq (sExpr (eCall 1 F_check_simple (aCons (eVar 0) aNil)))
    (sSeq (sExpr (eCall 2 F_check_options (aCons (eVar 0) (aCons (eVar 1) aNil))))
    (sSeq (sExpr (eCall 2 F_check_choice (aCons (eVar 1) (aCons (eVar 2) aNil))))
    (sRet (eCall 3 F_with_choice (aCons (eVar 0) (aCons (eVar 1) (aCons (eVar 2) aNil))))))))
def F_changed := runP 3 B_changed

def lB_payments_with_1 : SS :=
    (sTput 3 (eVar 4) (eCall 2 F_all_payments (aCons (eCall 3 F_with_choice (aCons (eVar 0) (aCons (eVar 1) (aCons (eVar 4) aNil)))) (aCons (eVar 2) aNil))))
def B_payments_with : SS :=
    (sSeq (sTbN 3)
    (sSeq (sFor (iSeq (eCall 1 F_choices_of (aCons (eVar 1) aNil))) (gN 4) lB_payments_with_1)
    (fun ρ W => (sRet (eVar 3)) (frzT 3 ρ) W)))
def F_payments_with := runP 5 B_payments_with

def B_is_settled : SS :=
    (sSeq (sExpr (eCall 1 F_check_simple (aCons (eVar 0) aNil)))
    (sSeq (sExpr (eCall 2 F_check_options (aCons (eVar 0) (aCons (eVar 1) aNil))))
    (sSeq (sExpr (eCall 1 F_check_amount (aCons (eVar 2) aNil)))
    (sSeq (sExpr (eCall 2 F_check_choice (aCons (eVar 1) (aCons (eVar 3) aNil))))
    (sRet (eCall 3 F_is_stable (aCons (eCall 3 F_payments_with (aCons (eVar 0) (aCons (eVar 1) (aCons (eVar 2) aNil)))) (aCons (eVar 1) (aCons (eVar 3) aNil)))))))))
def F_is_settled := runP 4 B_is_settled

def cC_settled_1 : SB :=
    (bOf (eCall 3 F_is_stable (aCons (eVar 3) (aCons (eVar 1) (aCons (eVar 4) aNil)))))
def cE_settled_1 : SE :=
    (eVar 4)
def B_settled : SS :=
    (sSeq (sExpr (eCall 1 F_check_simple (aCons (eVar 0) aNil)))
    (sSeq (sExpr (eCall 2 F_check_options (aCons (eVar 0) (aCons (eVar 1) aNil))))
    (sSeq (sExpr (eCall 1 F_check_amount (aCons (eVar 2) aNil)))
    (sSeq (sAsg 3 (eCall 3 F_payments_with (aCons (eVar 0) (aCons (eVar 1) (aCons (eVar 2) aNil)))))
    (sRet (eCB tupleD (aCons (eFrz (lComp (iSeq (eCall 1 F_choices_of (aCons (eVar 1) aNil))) (gN 4) cC_settled_1 cE_settled_1 [4])) aNil)))))))
def F_settled := runP 5 B_settled


def cE_joined_pairs_1 : SE :=
    (eBin gtD (eDget 4 (eVar 5)) (eVar 3))
def cE_joined_pairs_2 : SE :=
    (eTup (aCons (eBin subD (eVar 5) (eCB intD (aCons (eBin gtD (eVar 5) (eVar 2)) aNil))) (aCons (eDget 4 (eVar 5)) aNil)))
def B_joined_pairs : SS :=
    (sSeq (sDk 4 (kDictT (eVar 0)))
    (sSeq (sIf (bOf (eDin 4 (eVar 2))) (sSeq (sDput 4 (eVar 1) (eBin addD (eDget2 4 (eVar 1) (eC (.int 0))) (eDget 4 (eVar 2))))
    (sDpop 4 (eVar 2))) sPass)
    (sSeq (sIf (bOf (eCB anyD (aCons (eFrz (lLock 4 (lComp (iDk 4) (gN 5) bYes cE_joined_pairs_1 [5]))) aNil))) sNever sPass)
    (sRet (eCB tupleD (aCons (eFrz (lComp (iSeq (eFrz (lSortDk 4))) (gN 5) bYes cE_joined_pairs_2 [5])) aNil))))))
def F_joined_pairs := runP 6 B_joined_pairs

def B_check_fit : SS :=
    (sSeq (sPar [3, 4] (mK (kDictT (eBin ixD (eVar 0) (eC (.int 1)))) (mK (kDictT (eBin ixD (eVar 0) (eC (.int 2)))) mNil)))
    (sIf (bAnd (bOf (eDin 3 (eVar 1))) (bOf (eDin 3 (eVar 2)))) (sSeq (sIf (bOf (eBin neD (eDin 4 (eVar 1)) (eDin 4 (eVar 2)))) sNever sPass)
    (sIf (bAnd (bOf (eDin 4 (eVar 1))) (bOf (eBin neD (eBin mulD (eDget 4 (eVar 1)) (eDget 3 (eVar 2))) (eBin mulD (eDget 4 (eVar 2)) (eDget 3 (eVar 1)))))) sNever sPass)) sPass))
def F_check_fit := runP 5 B_check_fit

def lB_joined_1 : SS :=
    (sIf (bOf (eBin eqD (eBin ixD (eVar 3) (eC (.int 0))) (eC (.str "shares")))) (sExpr (eCall 3 F_check_fit (aCons (eVar 3) (aCons (eVar 1) (aCons (eVar 2) aNil))))) sPass)
def lB_joined_2 : SS :=
    (sIf (bOf (eBin eqD (eBin ixD (eVar 3) (eC (.int 0))) (eC (.str "fixed")))) (sApp 4 (eTup (aCons (eC (.str "fixed")) (aCons (eCall 4 F_joined_pairs (aCons (eBin ixD (eVar 3) (eC (.int 1))) (aCons (eVar 1) (aCons (eVar 2) (aCons (eC (.int 999)) aNil))))) aNil)))) (sSeq (sAsg 5 (eCall 4 F_joined_pairs (aCons (eBin ixD (eVar 3) (eC (.int 1))) (aCons (eVar 1) (aCons (eVar 2) (aCons (eC (.int 20)) aNil))))))
    (sApp 4 (eTup (aCons (eC (.str "shares")) (aCons (eVar 5) (aCons (eCall 4 F_joined_pairs (aCons (eBin ixD (eVar 3) (eC (.int 2))) (aCons (eVar 1) (aCons (eVar 2) (aCons (eC (.int 999)) aNil))))) aNil)))))))
def B_joined : SS :=
    (sSeq (sExpr (eCall 1 F_check_ladder (aCons (eVar 0) aNil)))
    (sSeq (sExpr (eCall 2 F_check_holder (aCons (eVar 0) (aCons (eVar 1) aNil))))
    (sSeq (sExpr (eCall 2 F_check_holder (aCons (eVar 0) (aCons (eVar 2) aNil))))
    (sSeq (sIf (bOf (eBin geD (eVar 1) (eVar 2))) sNever sPass)
    (sSeq (sFor (iSeq (eBin ixD (eVar 0) (eC (.int 1)))) (gN 3) lB_joined_1)
    (sSeq (sOwn 4 (lLst aNil))
    (sSeq (sFor (iSeq (eBin ixD (eVar 0) (eC (.int 1)))) (gN 3) lB_joined_2)
    (sRet (eTup (aCons (eBin subD (eBin ixD (eVar 0) (eC (.int 0))) (eC (.int 1))) (aCons (eCB tupleD (aCons (eBor 4) aNil)) aNil)))))))))))
def F_joined := runP 6 B_joined

end Sx

namespace Mx
/-! ### simple ladders with options: the ladder with a choice -/
structure Smp where
  n : Nat
  fs : List (List (Nat × Nat))
  w : List (Nat × Nat)
  c : List (Nat × Nat)
  os : List (Nat × Nat)
section
variable {s : Smp}
end
end Mx

namespace Sx
open PySem PySem.Spec PyProof.Rows L2 Mx
/-! evaluation of what Sx18 to Sx22 bring -/
section
variable {ρ : Sl} {W : Tw} {i : Nat} {k e fk fz : SE} {x : Dt}
@[simp] theorem eDget2_s : eDget2 i fk fz ρ W = (match dkAt ρ i with
  | some kvs => (fk ρ W).bind fun p => (fz ρ p.2).bind fun q => ofO (get2D kvs p.1 q.1) q.2
  | none => .bad) := rfl
@[simp] theorem get2D_i {kvs} {k : Int} {z : Dt} : get2D kvs (.int k) z = some ((valD kvs k).getD z) := rfl
@[simp] theorem sDput_s : sDput i k e ρ W = (match ρ[i]? with
  | some (some (.dk kvs)) => rOut (e ρ W) fun d W1 => rOut (k ρ W1) fun kd W2 => nxK i kvs kd d ρ W2
  | _ => .bad) := rfl
@[simp] theorem nxK_i {kvs} {k : Int} {d : Dt} : nxK i kvs (.int k) d ρ W = if kvs.length < 100000 then .nx (ρ.set i (some (.dk (putD kvs k d)))) W else .bad := rfl
@[simp] theorem sDpop_s : sDpop i k ρ W = (match ρ[i]? with
  | some (some (.dk kvs)) => rOut (k ρ W) fun kd W1 => nxD i kvs kd ρ W1
  | _ => .bad) := rfl
@[simp] theorem nxD_i {kvs} {k : Int} : nxD i kvs (.int k) ρ W = if (valD kvs k).isSome = true then .nx (ρ.set i (some (.dk (dropD kvs k)))) W else .bad := rfl
@[simp] theorem lSortDk_s : lSortDk i ρ W = (match dkAt ρ i with
  | some kvs => if kvs.length < 64 then .ok ((sortO leI (kvs.map (·.1))).map PyData.int, W) else .bad
  | none => .bad) := rfl
@[simp] theorem kDictT_s : kDictT e ρ W = (e ρ W).bind fun p => ofO (dictOfT p.1) p.2 := rfl
@[simp] theorem sTbN_s : sTbN i ρ W = if i < ρ.length then .nx (ρ.set i (some (.tb []))) W else .bad := rfl
@[simp] theorem sTput_s : sTput i k e ρ W = (match ρ[i]? with
  | some (some (.tb kvs)) => rOut (e ρ W) fun d W1 => rOut (k ρ W1) fun kd W2 => nxTb i kvs kd d ρ W2
  | _ => .bad) := rfl
@[simp] theorem frzT_s : frzT i ρ = (match ρ[i]? with
  | some (some (.tb kvs)) => ρ.set i (some (.d (.dict kvs)))
  | _ => ρ) := rfl
@[simp] theorem lComp2_s {it : SA} {g : SG} {it1 : SA} {g1 : SG} {vs vs1 : List Nat} : lComp2 it g it1 g1 e vs vs1 ρ W = (it ρ W).bind fun p => if p.1.length ≤ 90 ∧ wipeOk ρ vs = true then nox (cLL g it1 g1 e vs1 (wipeS ρ vs) p.1 p.2) else .bad := rfl
end
/-! choices -/
end Sx

namespace Sx
open PySem PySem.Spec PyProof.Rows L2 Mx
section
variable {s : Smp} {ch : List Nat}
@[simp] theorem gTu_fixed {f : List (Nat × Nat)} {gs : SGs} {ρ : Sl} : gTu 2 gs (rd (.fixed f)) ρ = gs [.str "fixed", prs f] ρ := by rfl
@[simp] theorem gTu_shares {w c : List (Nat × Nat)} {gs : SGs} {ρ : Sl} : gTu 3 gs (rd (.shares w c)) ρ = gs [.str "shares", prs w, prs c] ρ := by rfl
end
end Sx

namespace Sx
open PySem PySem.Spec PyProof.Rows L2 Mx
section
variable {s : Smp} {ch : List Nat}
@[simp] theorem mulD_l0 {x : Dt} : mulD (.list [x]) (.int 0) = some (.list []) := by rfl
@[simp] theorem mulD_l1 {x : Dt} : mulD (.list [x]) (.int 1) = some (.list [x]) := by rfl
end
end Sx

namespace Mx
/-! ### all choices -/
end Mx
namespace Sx
open PySem PySem.Spec PyProof.Rows L2 Mx
@[simp] theorem ne_fixed : neD (.str "fixed") (.str "fixed") = some (.bool false) := neD_str (k := true) (by decide +kernel) (by decide +kernel) (by decide +kernel)
section
variable {s : Smp} {ch : List Nat}
end
end Sx

namespace Sx
open PySem PySem.Spec PyProof.Rows L2 Mx
/-! data that is equal to itself, with texts -/
def Gq (k : Nat) (d : Dt) : Prop := d.canLay0 = true ∧ d.depth ≤ k ∧ PyData.eqv d d = true
def Gqs (k : Nat) (ds : List Dt) : Prop := PyData.canLayAll0 ds = true ∧ PyData.depthAll ds ≤ k ∧ PyData.eqvAll ds ds = true
theorem Gqs.nil {k : Nat} : Gqs k [] := ⟨rfl, Nat.zero_le _, rfl⟩
theorem Gqs.cons {k : Nat} {d : Dt} {ds : List Dt} (h : Gq k d) (t : Gqs k ds) : Gqs k (d :: ds) :=
  ⟨by show (PyData.canLay0 d && PyData.canLayAll0 ds) = true; rw [h.1, t.1]; rfl, Nat.max_le.mpr ⟨h.2.1, t.2.1⟩, by
    show (PyData.eqv d d && PyData.eqvAll ds ds) = true
    rw [h.2.2, t.2.2]; rfl⟩
theorem Gq.tup {k : Nat} {ds : List Dt} (h : Gqs k ds) : Gq (k + 1) (.tuple ds) := ⟨h.1, Nat.succ_le_succ h.2.1, h.2.2⟩
theorem Gq.flt {k : Nat} {d : Dt} (h : flt k d = true) : Gq k d := ⟨(flt_ok d k h).1, (flt_ok d k h).2, eqv_refl d k h⟩
theorem Gq.int {k : Nat} {i : Int} : Gq k (.int i) := .flt (by cases k <;> rfl)
theorem Gq.sh {k : Nat} {d : Dt} (h : Gq k d) (hk : k ≤ 64) : SeqAt.shaped d = true := by
  unfold SeqAt.shaped
  rw [h.1, decide_eq_true (Nat.le_trans h.2.1 hk)]; rfl
theorem Gq.ne {k : Nat} {d : Dt} (h : Gq k d) (hk : k ≤ 64) : neD d d = some (.bool false) := by
  unfold neD
  rw [h.sh hk, h.2.2]; rfl
end Sx

namespace Mx
/-! ### a ladder of fixed rungs and shares without caps, for great amounts -/
def hv (h : Nat) (f : List (Nat × Nat)) : Nat := (lk f h).getD 0
/-! sums -/
section
variable {n h u : Nat} {fs : List (List (Nat × Nat))} {w : List (Nat × Nat)}
end
/-! the edge, as plain numbers -/
section
variable {O F A B t e y : Rat}
end
end Mx

namespace Mx
/-! ### known ladders: two pieces -/
section
variable {n w : Nat}
theorem ws1 : wsum [(0, n)] = n := by show n + 0 = n; rfl
theorem ws2 : wsum [(0, 1), (1, w)] = w + 1 := by show 1 + (w + 0) = w + 1; omega
/-! the cap -/
/-! one who may change -/
end
end Mx

namespace Sx
open PySem PySem.Spec PyProof.Rows L2

def B__law_name : SS :=
    (sSeq (sIf (bNot (bOf (eIsX 0 "ValueError"))) (sRet (eUn negD (eC (.int 1)))) sPass)
    (sSeq (sAsg 1 (eFrz (lLst (aCons (eIsX 0 "InvalidLadder") (aCons (eIsX 0 "InvalidHolder") aNil)))))
    (sSeq (sAsg 1 (eBin addD (eVar 1) (eFrz (lLst (aCons (eIsX 0 "InvalidAmount") (aCons (eIsX 0 "InvalidNumber") aNil))))))
    (sSeq (sAsg 1 (eBin addD (eVar 1) (eFrz (lLst (aCons (eIsX 0 "InvalidGoal") (aCons (eIsX 0 "InvalidOptions") aNil))))))
    (sSeq (sAsg 1 (eBin addD (eVar 1) (eFrz (lLst (aCons (eIsX 0 "InvalidChoice") (aCons (eIsX 0 "InvalidText") aNil))))))
    (sSeq (sAsg 1 (eBin addD (eVar 1) (eFrz (lLst (aCons (eIsX 0 "Unlike") (aCons (eIsX 0 "NotSimple") aNil))))))
    (sSeq (sAsg 1 (eBin addD (eVar 1) (eFrz (lLst (aCons (eIsX 0 "TooMany") (aCons (eIsX 0 "TooMuch") aNil))))))
    (sSeq (sAsg 1 (eBin addD (eVar 1) (eFrz (lLst (aCons (eIsX 0 "NothingToUndo") aNil)))))
    (sRet (eIf (bOf (eBin eqD (eMth cntD (eVar 1) (eC (.bool true))) (eC (.int 1)))) (eMth idxD (eVar 1) (eC (.bool true))) (eUn negD (eC (.int 1)))))))))))))
def F__law_name := runN 2 B__law_name

def B__law_raises : SS :=
    (sSeq (sAsg 1 (eFrz (lLst (aCons (eC (.str "ladder")) (aCons (eC (.str "holder")) (aCons (eC (.str "amount")) (aCons (eC (.str "number")) (aCons (eC (.str "goal")) (aCons (eC (.str "options")) (aCons (eC (.str "choice")) aNil))))))))))
    (sSeq (sAsg 1 (eBin addD (eVar 1) (eFrz (lLst (aCons (eC (.str "text")) (aCons (eC (.str "unlike")) (aCons (eC (.str "simple")) (aCons (eC (.str "many")) (aCons (eC (.str "much")) (aCons (eC (.str "undo")) aNil))))))))))
    (sRet (eTup (aCons (eC (.str "raised")) (aCons (eMth idxD (eVar 1) (eVar 0)) aNil))))))
def F__law_raises := runP 2 B__law_raises

def cC_X_with_choice_2 : SB :=
    (bOf (eBin notInD (eBin ixD (eVar 12) (eC (.int 0))) (eVar 2)))
def cE_X_with_choice_2 : SE :=
    (eVar 12)
def lB_X_with_choice_1 : SS :=
    (sSeq (sAsg 11 (eCB tupleD (aCons (eFrz (lComp (iSeq (eVar 5)) (gN 12) cC_X_with_choice_2 cE_X_with_choice_2 [12])) aNil)))
    (sAsg 3 (eBin addD (eVar 3) (eIf (bOf (eBin neD (eVar 11) (eTup aNil))) (eTup (aCons (eTup (aCons (eVar 4) (aCons (eVar 11) aNil))) aNil)) (eTup aNil)))))
def lB_X_with_choice_3 : SS :=
    (sIf (bOf (eBin inD (eVar 9) (eVar 2))) (sDput 8 (eVar 9) (eBin addD (eDget2 8 (eVar 9) (eC (.int 0))) (eVar 10))) sPass)
def cE_X_with_choice_4 : SE :=
    (eBin gtD (eDget 8 (eVar 9)) (eC (.int 20)))
def cE_X_with_choice_5 : SE :=
    (eTup (aCons (eVar 9) (aCons (eDget 8 (eVar 9)) aNil)))
def B_X_with_choice : SS :=
    (sSeq (sAsg 3 (eTup aNil))
    (sSeq (sFor (iSeq (eSlice (eBin ixD (eVar 0) (eC (.int 1))) oNone (oSome (eUn negD (eC (.int 1)))))) (gTu 2 (gsCons (gN 4) (gsCons (gN 5) gsNil))) lB_X_with_choice_1)
    (sSeq (sAsgG (gTu 3 (gsCons (gN 4) (gsCons (gN 6) (gsCons (gN 7) gsNil)))) (eBin ixD (eBin ixD (eVar 0) (eC (.int 1))) (eUn negD (eC (.int 1)))))
    (sSeq (sDk 8 (kDictT (eVar 6)))
    (sSeq (sFor (iSeq (eVar 1)) (gTu 2 (gsCons (gN 9) (gsCons (gN 10) gsNil))) lB_X_with_choice_3)
    (sSeq (sIf (bOf (eCB anyD (aCons (eFrz (lLock 8 (lComp (iDk 8) (gN 9) bYes cE_X_with_choice_4 [9]))) aNil))) (sRaise "TooMany") sPass)
    (sRet (eTup (aCons (eBin ixD (eVar 0) (eC (.int 0))) (aCons (eBin addD (eVar 3) (eTup (aCons (eTup (aCons (eVar 4) (aCons (eCB tupleD (aCons (eFrz (lComp (iSeq (eFrz (lSortDk 8))) (gN 9) bYes cE_X_with_choice_5 [9])) aNil)) (aCons (eVar 7) aNil)))) aNil))) aNil))))))))))
def F_X_with_choice := runP 13 B_X_with_choice


def cE_X_check_choice_1 : SE :=
    (eVar 3)
def cE_X_check_choice_2 : SE :=
    (eAnd (eCall 3 F_is_between (aCons (eVar 3) (aCons (eC (.int 0)) (aCons (eC (.int 4)) aNil)))) (eBin inD (eVar 3) (eVar 2)))
def cE_X_check_choice_3 : SE :=
    (eBin ltD (eBin ixD (eVar 1) (eVar 5)) (eBin ixD (eVar 1) (eBin addD (eVar 5) (eC (.int 1)))))
def B_X_check_choice : SS :=
    (sSeq (sAsg 2 (eFrz (lComp (iSeq (eVar 0)) (gTu 2 (gsCons (gN 3) (gsCons (gN 4) gsNil))) bYes cE_X_check_choice_1 [3, 4])))
    (sSeq (sIf (bOr (bNot (bOf (eUn (isiD "tuple") (eVar 1)))) (bNot (bOf (eCB allD (aCons (eFrz (lComp (iSeq (eVar 1)) (gN 3) bYes cE_X_check_choice_2 [3])) aNil))))) (sRaise "InvalidChoice") sPass)
    (sIf (bNot (bOf (eCB allD (aCons (eFrz (lComp (iRng (aCons (eBin subD (eCB lenD (aCons (eVar 1) aNil)) (eC (.int 1))) aNil)) (gN 5) bYes cE_X_check_choice_3 [5])) aNil)))) (sRaise "InvalidChoice") sPass)))
def F_X_check_choice := runP 6 B_X_check_choice


def B_X_check_amount : SS :=
    (sIf (bNot (bOf (eCall 1 F_is_amount (aCons (eVar 0) aNil)))) (sRaise "InvalidAmount") sPass)
def F_X_check_amount := runP 1 B_X_check_amount


def cE_X_check_options_1 : SE :=
    (eVar 4)
def cI_X_check_options_1 : SA :=
    (iSeq (eBin ixD (eVar 3) (eC (.int 1))))
def cE_X_check_options_2 : SE :=
    (eBin notInD (eVar 4) (eVar 2))
def B_X_check_options : SS :=
    (sSeq (sIf (bNot (bOf (eCall 4 F_are_pairs (aCons (eBin ixD (eVar 0) (eC (.int 0))) (aCons (eVar 1) (aCons (eC (.int 20)) (aCons (eC (.int 0)) aNil))))))) (sRaise "InvalidOptions") sPass)
    (sSeq (sAsg 2 (eFrz (lComp2 (iSeq (eSlice (eBin ixD (eVar 0) (eC (.int 1))) oNone (oSome (eUn negD (eC (.int 1)))))) (gN 3) cI_X_check_options_1 (gTu 2 (gsCons (gN 4) (gsCons (gN 5) gsNil))) cE_X_check_options_1 [3, 4, 5] [4, 5])))
    (sIf (bOf (eCB anyD (aCons (eFrz (lComp (iSeq (eVar 1)) (gTu 2 (gsCons (gN 4) (gsCons (gN 6) gsNil))) bYes cE_X_check_options_2 [4, 6])) aNil))) (sRaise "InvalidOptions") sPass)))
def F_X_check_options := runP 7 B_X_check_options


def B_X_check_ladder : SS :=
    (sIf (bNot (bOf (eCall 1 F_is_ladder (aCons (eVar 0) aNil)))) (sRaise "InvalidLadder") sPass)
def F_X_check_ladder := runP 1 B_X_check_ladder

theorem le_X_check_ladder : LeF F_check_ladder F_X_check_ladder := le_runP (by
    simp only [B_check_ladder, B_X_check_ladder]
    repeat' (first | exact LeS.refl _ | exact Le2.refl _ | exact le_never | assumption | apply le_seq | apply le_if | apply le_for | apply le_expr | apply le_ret | apply le_asgG | apply le_asg | apply le_own | apply le_app | apply le_tput | apply le_tup | apply le_frz | apply le_lst | apply le_cons | apply le_eif | apply le_seqI | apply le_call0 | apply le_call | apply le_bin | apply le_fz | apply le_cb))

def cE_X_check_simple_1 : SE :=
    (eBin neD (eBin ixD (eVar 1) (eC (.int 0))) (eC (.str "fixed")))
def B_X_check_simple : SS :=
    (sSeq (sExpr (eCallX 1 F_X_check_ladder (aCons (eVar 0) aNil)))
    (sIf (bOf (eCB anyD (aCons (eFrz (lComp (iSeq (eSlice (eBin ixD (eVar 0) (eC (.int 1))) oNone (oSome (eUn negD (eC (.int 1)))))) (gN 1) bYes cE_X_check_simple_1 [1])) aNil))) (sRaise "NotSimple") sPass))
def F_X_check_simple := runP 2 B_X_check_simple


def B_X_changed : SS :=
    (sSeq (sExpr (eCallX 1 F_X_check_simple (aCons (eVar 0) aNil)))
    (sSeq (sExpr (eCallX 2 F_X_check_options (aCons (eVar 0) (aCons (eVar 1) aNil))))
    (sSeq (sExpr (eCallX 2 F_X_check_choice (aCons (eVar 1) (aCons (eVar 2) aNil))))
    (sRet (eCallX 3 F_X_with_choice (aCons (eVar 0) (aCons (eVar 1) (aCons (eVar 2) aNil))))))))
def F_X_changed := runP 3 B_X_changed


def lB_X_payments_with_1 : SS :=
    (sTput 3 (eVar 4) (eCall 2 F_all_payments (aCons (eCallX 3 F_X_with_choice (aCons (eVar 0) (aCons (eVar 1) (aCons (eVar 4) aNil)))) (aCons (eVar 2) aNil))))
def B_X_payments_with : SS :=
    (sSeq (sTbN 3)
    (sSeq (sFor (iSeq (eCall 1 F_choices_of (aCons (eVar 1) aNil))) (gN 4) lB_X_payments_with_1)
    (fun ρ W => (sRet (eVar 3)) (frzT 3 ρ) W)))
def F_X_payments_with := runP 5 B_X_payments_with


def B_X_is_settled : SS :=
    (sSeq (sExpr (eCallX 1 F_X_check_simple (aCons (eVar 0) aNil)))
    (sSeq (sExpr (eCallX 2 F_X_check_options (aCons (eVar 0) (aCons (eVar 1) aNil))))
    (sSeq (sExpr (eCallX 1 F_X_check_amount (aCons (eVar 2) aNil)))
    (sSeq (sExpr (eCallX 2 F_X_check_choice (aCons (eVar 1) (aCons (eVar 3) aNil))))
    (sRet (eCall 3 F_is_stable (aCons (eCallX 3 F_X_payments_with (aCons (eVar 0) (aCons (eVar 1) (aCons (eVar 2) aNil)))) (aCons (eVar 1) (aCons (eVar 3) aNil)))))))))
def F_X_is_settled := runP 4 B_X_is_settled


def cC_X_settled_1 : SB :=
    (bOf (eCall 3 F_is_stable (aCons (eVar 3) (aCons (eVar 1) (aCons (eVar 4) aNil)))))
def cE_X_settled_1 : SE :=
    (eVar 4)
def B_X_settled : SS :=
    (sSeq (sExpr (eCallX 1 F_X_check_simple (aCons (eVar 0) aNil)))
    (sSeq (sExpr (eCallX 2 F_X_check_options (aCons (eVar 0) (aCons (eVar 1) aNil))))
    (sSeq (sExpr (eCallX 1 F_X_check_amount (aCons (eVar 2) aNil)))
    (sSeq (sAsg 3 (eCallX 3 F_X_payments_with (aCons (eVar 0) (aCons (eVar 1) (aCons (eVar 2) aNil)))))
    (sRet (eCB tupleD (aCons (eFrz (lComp (iSeq (eCall 1 F_choices_of (aCons (eVar 1) aNil))) (gN 4) cC_X_settled_1 cE_X_settled_1 [4])) aNil)))))))
def F_X_settled := runP 5 B_X_settled


def cE_X_joined_pairs_1 : SE :=
    (eBin gtD (eDget 4 (eVar 5)) (eVar 3))
def cE_X_joined_pairs_2 : SE :=
    (eTup (aCons (eBin subD (eVar 5) (eCB intD (aCons (eBin gtD (eVar 5) (eVar 2)) aNil))) (aCons (eDget 4 (eVar 5)) aNil)))
def B_X_joined_pairs : SS :=
    (sSeq (sDk 4 (kDictT (eVar 0)))
    (sSeq (sIf (bOf (eDin 4 (eVar 2))) (sSeq (sDput 4 (eVar 1) (eBin addD (eDget2 4 (eVar 1) (eC (.int 0))) (eDget 4 (eVar 2))))
    (sDpop 4 (eVar 2))) sPass)
    (sSeq (sIf (bOf (eCB anyD (aCons (eFrz (lLock 4 (lComp (iDk 4) (gN 5) bYes cE_X_joined_pairs_1 [5]))) aNil))) (sRaise "TooMany") sPass)
    (sRet (eCB tupleD (aCons (eFrz (lComp (iSeq (eFrz (lSortDk 4))) (gN 5) bYes cE_X_joined_pairs_2 [5])) aNil))))))
def F_X_joined_pairs := runP 6 B_X_joined_pairs


def B_X_check_fit : SS :=
    (sSeq (sPar [3, 4] (mK (kDictT (eBin ixD (eVar 0) (eC (.int 1)))) (mK (kDictT (eBin ixD (eVar 0) (eC (.int 2)))) mNil)))
    (sIf (bAnd (bOf (eDin 3 (eVar 1))) (bOf (eDin 3 (eVar 2)))) (sSeq (sIf (bOf (eBin neD (eDin 4 (eVar 1)) (eDin 4 (eVar 2)))) (sRaise "Unlike") sPass)
    (sIf (bAnd (bOf (eDin 4 (eVar 1))) (bOf (eBin neD (eBin mulD (eDget 4 (eVar 1)) (eDget 3 (eVar 2))) (eBin mulD (eDget 4 (eVar 2)) (eDget 3 (eVar 1)))))) (sRaise "Unlike") sPass)) sPass))
def F_X_check_fit := runP 5 B_X_check_fit


def B_X_check_holder : SS :=
    (sIf (bNot (bOf (eCall 3 F_is_between (aCons (eVar 1) (aCons (eC (.int 0)) (aCons (eBin subD (eBin ixD (eVar 0) (eC (.int 0))) (eC (.int 1))) aNil)))))) (sRaise "InvalidHolder") sPass)
def F_X_check_holder := runP 2 B_X_check_holder


def lB_X_joined_1 : SS :=
    (sIf (bOf (eBin eqD (eBin ixD (eVar 3) (eC (.int 0))) (eC (.str "shares")))) (sExpr (eCallX 3 F_X_check_fit (aCons (eVar 3) (aCons (eVar 1) (aCons (eVar 2) aNil))))) sPass)
def lB_X_joined_2 : SS :=
    (sIf (bOf (eBin eqD (eBin ixD (eVar 3) (eC (.int 0))) (eC (.str "fixed")))) (sApp 4 (eTup (aCons (eC (.str "fixed")) (aCons (eCallX 4 F_X_joined_pairs (aCons (eBin ixD (eVar 3) (eC (.int 1))) (aCons (eVar 1) (aCons (eVar 2) (aCons (eC (.int 999)) aNil))))) aNil)))) (sSeq (sAsg 5 (eCallX 4 F_X_joined_pairs (aCons (eBin ixD (eVar 3) (eC (.int 1))) (aCons (eVar 1) (aCons (eVar 2) (aCons (eC (.int 20)) aNil))))))
    (sApp 4 (eTup (aCons (eC (.str "shares")) (aCons (eVar 5) (aCons (eCallX 4 F_X_joined_pairs (aCons (eBin ixD (eVar 3) (eC (.int 2))) (aCons (eVar 1) (aCons (eVar 2) (aCons (eC (.int 999)) aNil))))) aNil)))))))
def B_X_joined : SS :=
    (sSeq (sExpr (eCallX 1 F_X_check_ladder (aCons (eVar 0) aNil)))
    (sSeq (sExpr (eCallX 2 F_X_check_holder (aCons (eVar 0) (aCons (eVar 1) aNil))))
    (sSeq (sExpr (eCallX 2 F_X_check_holder (aCons (eVar 0) (aCons (eVar 2) aNil))))
    (sSeq (sIf (bOf (eBin geD (eVar 1) (eVar 2))) (sRaise "InvalidHolder") sPass)
    (sSeq (sFor (iSeq (eBin ixD (eVar 0) (eC (.int 1)))) (gN 3) lB_X_joined_1)
    (sSeq (sOwn 4 (lLst aNil))
    (sSeq (sFor (iSeq (eBin ixD (eVar 0) (eC (.int 1)))) (gN 3) lB_X_joined_2)
    (sRet (eTup (aCons (eBin subD (eBin ixD (eVar 0) (eC (.int 0))) (eC (.int 1))) (aCons (eCB tupleD (aCons (eBor 4) aNil)) aNil)))))))))))
def F_X_joined := runP 6 B_X_joined


end Sx

namespace Sx
open PySem PySem.Spec PyProof.Rows L2 Mx
@[simp] theorem rOut_exc {α : Type} {c : Str} {k : α → Tw → Out} : rOut (.exc c) k = .exc c := rfl
@[simp] theorem rOut_bad {α : Type} {k : α → Tw → Out} : rOut (.bad : Res (α × Tw)) k = .bad := rfl
@[simp] theorem sRaise_s {c : Str} {ρ : Sl} {W : Tw} : sRaise c ρ W = .exc c := rfl
theorem raised (n : Nat) : neD (.tuple [.str "raised", .int (n : Int)]) (.tuple [.str "raised", .int (n : Int)]) = some (.bool false) := Gq.ne (k := 2) (.tup (.cons ⟨by decide +kernel, Nat.zero_le _, by decide +kernel⟩ (.cons .int .nil))) (by decide)
@[simp] theorem eCallX_s {n : Nat} {Fs : List Dt → Res Dt} {as : SA} {ρ : Sl} {W : Tw} : eCallX n Fs as ρ W = (as ρ W).bind fun p => if p.1.length = n then resX (Fs p.1) p.2 else .bad := rfl
@[simp] theorem resX_ok {α : Type} {r : α} {W : Tw} : resX (.ok r) W = .ok (r, W) := rfl
@[simp] theorem resX_exc {α : Type} {c : Str} {W : Tw} : resX (.exc c : Res α) W = .exc c := rfl
theorem fL_step {g : SG} {body : SS} {d : Dt} {ds : List Dt} {ρ ρ1 ρ2 : Sl} {W W2 : Tw} (hg : g d ρ = some ρ1) (hb : body ρ1 W = .nx ρ2 W2) : fL g body (d :: ds) ρ W = fL g body ds ρ2 W2 := by
  rw [fL_cons, hg]
  simp only
  rw [hb]
end Sx

namespace Mx
/-! ### two holders put together: pairs -/
def vals (ps : List (Nat × Nat)) (h : Nat) : Nat := (lk ps h).getD 0
def low (s : Nat) (p : Nat × Nat) : Nat × Nat := (if s < p.1 then p.1 - 1 else p.1, p.2)
end Mx
namespace Sx
open PySem PySem.Spec PyProof.Rows L2 Mx
section
variable {n m f s M : Nat} {ps : List (Nat × Nat)}
end
end Sx

namespace Mx
/-! ### two holders put together: payments -/
/-- what two holders have in a rung -/
structure WR (n : Nat) (A C : List (Nat × Nat)) : Prop where
  a : ∃ m, POk n m A
  c : ∃ m, POk n m C
  sub : ∀ h, vals A h = 0 → vals C h = 0
section
variable {n m f s : Nat} {A C : List (Nat × Nat)}
end
section
variable {n f s : Nat}
end
end Mx

namespace Mx
/-! ### ladders without caps; one more holder -/
section
variable {l : Lad} {f s : Nat}
end
/-! one more holder -/
/-! small numbers, no caps -/
def m4 (A : List (Nat × Nat)) : List (Nat × Nat) := A.map fun p => (p.1, min p.2 4)
end Mx

namespace Sx
open PySem PySem.Spec PyProof.Rows L2

def cE__law_bads_1 : SE :=
    (eTup (aCons (eC (.int 2)) (aCons (eTup (aCons (eVar 3) (aCons (eVar 0) aNil))) aNil)))
def B__law_bads : SS :=
    (sSeq (sAsg 0 (eTup (aCons (eC (.str "shares")) (aCons (eTup (aCons (eTup (aCons (eC (.int 0)) (aCons (eC (.int 1)) aNil))) aNil)) (aCons (eTup aNil) aNil)))))
    (sSeq (sOwn 1 (lLst (aCons (eC .none) (aCons (eTup (aCons (eC (.str "fixed")) aNil)) (aCons (eTup (aCons (eC (.str "fixed")) (aCons (eTup aNil) aNil))) (aCons (eTup (aCons (eC (.str "fixed")) (aCons (eTup (aCons (eTup (aCons (eC (.int 0)) (aCons (eC (.int 0)) aNil))) aNil)) aNil))) (aCons (eTup (aCons (eC (.str "fixed")) (aCons (eTup (aCons (eTup (aCons (eC (.int 0)) (aCons (eC (.int 1000)) aNil))) aNil)) aNil))) (aCons (eTup (aCons (eC (.str "fixed")) (aCons (eTup (aCons (eTup (aCons (eC (.int 2)) (aCons (eC (.int 1)) aNil))) aNil)) aNil))) aNil))))))))
    (sSeq (sOwn 1 (lBin addL (eBor 1) (eFrz (lLst (aCons (eTup (aCons (eC (.str "f")) (aCons (eTup (aCons (eTup (aCons (eC (.int 0)) (aCons (eC (.int 1)) aNil))) aNil)) aNil))) (aCons (eTup (aCons (eC (.str "fixed")) (aCons (eTup (aCons (eTup (aCons (eC (.int 1)) (aCons (eC (.int 1)) aNil))) (aCons (eTup (aCons (eC (.int 0)) (aCons (eC (.int 1)) aNil))) aNil))) aNil))) (aCons (eTup (aCons (eC (.str "fixed")) (aCons (eTup (aCons (eTup (aCons (eC (.int 0)) (aCons (eC (.int 1)) aNil))) (aCons (eTup (aCons (eC (.int 0)) (aCons (eC (.int 2)) aNil))) aNil))) aNil))) aNil)))))))
    (sSeq (sOwn 1 (lBin addL (eBor 1) (eFrz (lLst (aCons (eTup (aCons (eC (.str "fixed")) (aCons (eFrz (lLst (aCons (eTup (aCons (eC (.int 0)) (aCons (eC (.int 1)) aNil))) aNil))) aNil))) (aCons (eTup (aCons (eC (.str "fixed")) (aCons (eTup (aCons (eTup (aCons (eC (.int 0)) (aCons (eC (.bool true)) aNil))) aNil)) aNil))) aNil))))))
    (sSeq (sOwn 1 (lBin addL (eBor 1) (eFrz (lLst (aCons (eTup (aCons (eC (.str "shares")) (aCons (eTup (aCons (eTup (aCons (eC (.int 0)) (aCons (eC (.int 1)) aNil))) aNil)) aNil))) (aCons (eTup (aCons (eC (.str "shares")) (aCons (eTup aNil) (aCons (eTup aNil) aNil)))) (aCons (eTup (aCons (eC (.str "shares")) (aCons (eTup (aCons (eTup (aCons (eC (.int 0)) (aCons (eC (.int 21)) aNil))) aNil)) (aCons (eTup aNil) aNil)))) aNil)))))))
    (sSeq (sApp 1 (eTup (aCons (eC (.str "shares")) (aCons (eTup (aCons (eTup (aCons (eC (.int 0)) (aCons (eC (.int 1)) aNil))) aNil)) (aCons (eTup (aCons (eTup (aCons (eC (.int 1)) (aCons (eC (.int 5)) aNil))) aNil)) aNil)))))
    (sSeq (sOwn 1 (lBin addL (eBor 1) (eFrz (lLst (aCons (eFrz (lLst (aCons (eC (.str "fixed")) (aCons (eTup (aCons (eTup (aCons (eC (.int 0)) (aCons (eC (.int 1)) aNil))) aNil)) aNil)))) (aCons (eTup (aCons (eC (.str "shares")) (aCons (eTup (aCons (eTup (aCons (eC (.int 0)) (aCons (eC (.int 1)) aNil))) aNil)) (aCons (eTup (aCons (eTup (aCons (eC (.int 0)) (aCons (eC (.int 0)) aNil))) aNil)) aNil)))) (aCons (eTup (aCons (eC (.str "shares")) (aCons (eTup (aCons (eTup (aCons (eC (.int 0)) (aCons (eC (.int 1)) aNil))) aNil)) (aCons (eC .none) aNil)))) aNil)))))))
    (sSeq (sApp 1 (eTup (aCons (eC (.str "fixed")) (aCons (eTup (aCons (eTup (aCons (eC (.int 0)) (aCons (eC (.int 1)) aNil))) aNil)) (aCons (eTup aNil) aNil)))))
    (sSeq (sAsg 2 (eFrz (lLst (aCons (eC .none) (aCons (eC (.int 5)) (aCons (eTup aNil) (aCons (eTup (aCons (eC (.int 2)) aNil)) (aCons (eTup (aCons (eC (.int 0)) (aCons (eTup (aCons (eVar 0) aNil)) aNil))) (aCons (eTup (aCons (eC (.int 6)) (aCons (eTup (aCons (eVar 0) aNil)) aNil))) (aCons (eTup (aCons (eC (.bool true)) (aCons (eTup (aCons (eVar 0) aNil)) aNil))) (aCons (eTup (aCons (eC (.int 2)) (aCons (eTup aNil) aNil))) (aCons (eTup (aCons (eC (.int 2)) (aCons (eFrz (lLst (aCons (eVar 0) aNil))) aNil))) (aCons (eTup (aCons (eC (.int 2)) (aCons (eBin mulD (eTup (aCons (eVar 0) aNil)) (eC (.int 5))) aNil))) aNil)))))))))))))
    (sSeq (sAsg 2 (eBin addD (eVar 2) (eFrz (lLst (aCons (eFrz (lLst (aCons (eC (.int 2)) (aCons (eTup (aCons (eVar 0) aNil)) aNil)))) (aCons (eTup (aCons (eC (.int 2)) (aCons (eTup (aCons (eTup (aCons (eC (.str "fixed")) (aCons (eTup (aCons (eTup (aCons (eC (.int 0)) (aCons (eC (.int 1)) aNil))) aNil)) aNil))) aNil)) aNil))) (aCons (eTup (aCons (eC (.int 2)) (aCons (eTup (aCons (eTup (aCons (eC (.str "shares")) (aCons (eTup (aCons (eTup (aCons (eC (.int 0)) (aCons (eC (.int 1)) aNil))) aNil)) (aCons (eTup (aCons (eTup (aCons (eC (.int 0)) (aCons (eC (.int 5)) aNil))) aNil)) aNil)))) aNil)) aNil))) aNil)))))))
    (sSeq (sAsg 2 (eBin addD (eVar 2) (eFrz (lLst (aCons (eTup (aCons (eC (.int 2)) (aCons (eTup (aCons (eVar 0) aNil)) (aCons (eTup aNil) aNil)))) (aCons (eC (.str "2: s 0:1")) aNil))))))
    (fun ρ W => (sRet (eBin addD (eVar 2) (eFrz (lComp (iSeq (eVar 1)) (gN 3) bYes cE__law_bads_1 [3])))) (frzS 1 ρ) W))))))))))))
def F__law_bads := runP 4 B__law_bads

def cE__law_wrongs_2 : SE :=
    (eTup (aCons (eVar 3) (aCons (eVar 1) (aCons (eVar 1) (aCons (eC (.str "holder")) aNil)))))
def lB__law_wrongs_1 : SS :=
    (sSeq (sOwn 0 (lBin addL (eBin addD (eBor 0) (eFrz (lComp (iSeq (eTup (aCons (eC (.int 4)) (aCons (eC (.int 6)) (aCons (eC (.int 7)) (aCons (eC (.int 8)) (aCons (eC (.int 9)) (aCons (eC (.int 11)) aNil)))))))) (gN 3) bYes cE__law_wrongs_2 [3]))) (eFrz (lLst (aCons (eTup (aCons (eC (.int 11)) (aCons (eC (.int 0)) (aCons (eVar 1) (aCons (eC (.str "holder")) aNil))))) aNil)))))
    (sApp 0 (eTup (aCons (eC (.int 1)) (aCons (eVar 1) (aCons (eC (.int 0)) (aCons (eC (.str "number")) aNil)))))))
def cE__law_wrongs_4 : SE :=
    (eTup (aCons (eVar 3) (aCons (eVar 1) (aCons (eVar 1) (aCons (eC (.str "amount")) aNil)))))
def cE__law_wrongs_5 : SE :=
    (eTup (aCons (eVar 3) (aCons (eC (.int 0)) (aCons (eVar 1) (aCons (eC (.str "amount")) aNil)))))
def lB__law_wrongs_3 : SS :=
    (sSeq (sOwn 0 (lBin addL (eBin addD (eBor 0) (eFrz (lComp (iSeq (eTup (aCons (eC (.int 2)) (aCons (eC (.int 3)) (aCons (eC (.int 5)) aNil))))) (gN 3) bYes cE__law_wrongs_4 [3]))) (eFrz (lLst (aCons (eTup (aCons (eC (.int 5)) (aCons (eTup (aCons (eC (.int 1)) (aCons (eC (.int 1)) aNil))) (aCons (eVar 1) (aCons (eC (.str "amount")) aNil))))) aNil)))))
    (sOwn 0 (lBin addL (eBin addD (eBor 0) (eFrz (lComp (iSeq (eTup (aCons (eC (.int 7)) (aCons (eC (.int 8)) (aCons (eC (.int 9)) aNil))))) (gN 3) bYes cE__law_wrongs_5 [3]))) (eFrz (lLst (aCons (eTup (aCons (eC (.int 6)) (aCons (eC (.int 0)) (aCons (eVar 1) (aCons (eC (.str "goal")) aNil))))) aNil))))))
def B__law_wrongs : SS :=
    (sSeq (sOwn 0 (lLst aNil))
    (sSeq (sFor (iSeq (eTup (aCons (eUn negD (eC (.int 1))) (aCons (eC (.int 2)) (aCons (eC (.bool true)) (aCons (eC .none) (aCons (eC (.str "0")) (aCons (eTup (aCons (eC (.int 0)) aNil)) aNil)))))))) (gN 1) lB__law_wrongs_1)
    (sSeq (sAsg 2 (eFrz (lLst (aCons (eC .none) (aCons (eC (.int 5)) (aCons (eTup (aCons (eC (.int 1)) aNil)) (aCons (eTup (aCons (eC (.int 2)) (aCons (eC (.int 4)) aNil))) (aCons (eTup (aCons (eUn negD (eC (.int 1))) (aCons (eC (.int 2)) aNil))) (aCons (eTup (aCons (eC (.int 1)) (aCons (eC (.int 0)) aNil))) (aCons (eTup (aCons (eC (.int 1000001)) (aCons (eC (.int 1)) aNil))) (aCons (eTup (aCons (eC (.int 1)) (aCons (eC (.int 1001)) aNil))) (aCons (eFrz (lLst (aCons (eC (.int 1)) (aCons (eC (.int 2)) aNil)))) (aCons (eTup (aCons (eC (.bool true)) (aCons (eC (.int 2)) aNil))) (aCons (eTup (aCons (eC (.str "1")) (aCons (eC (.int 2)) aNil))) aNil))))))))))))))
    (sSeq (sFor (iSeq (eBin addD (eVar 2) (eFrz (lLst (aCons (eTup (aCons (eC (.int 1)) (aCons (eC (.int 2)) (aCons (eC (.int 3)) aNil)))) aNil))))) (gN 1) lB__law_wrongs_3)
    (sRet (eBin addD (eBor 0) (eFrz (lLst (aCons (eTup (aCons (eC (.int 8)) (aCons (eC (.int 0)) (aCons (eTup (aCons (eC (.int 0)) (aCons (eC (.int 1)) aNil))) (aCons (eC (.str "amount")) aNil))))) (aCons (eTup (aCons (eC (.int 9)) (aCons (eC (.int 0)) (aCons (eTup (aCons (eC (.int 0)) (aCons (eC (.int 1)) aNil))) (aCons (eC (.str "amount")) aNil))))) (aCons (eTup (aCons (eC (.int 11)) (aCons (eC (.int 1)) (aCons (eC (.int 1)) (aCons (eC (.str "holder")) aNil))))) (aCons (eTup (aCons (eC (.int 11)) (aCons (eC (.int 1)) (aCons (eC (.int 0)) (aCons (eC (.str "holder")) aNil))))) aNil))))))))))))
def F__law_wrongs := runP 4 B__law_wrongs

def B_X_check_like : SS :=
    (sIf (bOf (eBin neD (eBin ixD (eVar 0) (eC (.int 0))) (eBin ixD (eVar 1) (eC (.int 0))))) (sRaise "Unlike") sPass)
def F_X_check_like := runP 2 B_X_check_like


def cC_X_reached_1 : SB :=
    (bOf (eCall 1 F_is_endless (aCons (eVar 2) aNil)))
def cE_X_reached_1 : SE :=
    (eVar 1)
def B_X_reached : SS :=
    (sSeq (sExpr (eCallX 1 F_X_check_ladder (aCons (eVar 0) aNil)))
    (sRet (eBin addD (eBin ixD (eFrz (lComp (iEnum' (aCons (eBin ixD (eVar 0) (eC (.int 1))) aNil)) (gTu 2 (gsCons (gN 1) (gsCons (gN 2) gsNil))) cC_X_reached_1 cE_X_reached_1 [1, 2])) (eC (.int 0))) (eC (.int 1)))))
def F_X_reached := runP 3 B_X_reached


def cE_X_needed_for_2 : SE :=
    (eBin ixD (eVar 4) (eC (.int 1)))
def lB_X_needed_for_1 : SS :=
    (sSeq (sIf (bOf (eCall 1 F_is_endless (aCons (eVar 3) aNil))) (sRet (eC .none)) sPass)
    (sAsg 2 (eBin addD (eVar 2) (eCB sumD (aCons (eFrz (lComp (iSeq (eBin ixD (eVar 3) (eUn negD (eC (.int 1))))) (gN 4) bYes cE_X_needed_for_2 [4])) aNil)))))
def B_X_needed_for : SS :=
    (sSeq (sExpr (eCallX 1 F_X_check_ladder (aCons (eVar 0) aNil)))
    (sSeq (sIf (bNot (bOf (eCall 3 F_is_between (aCons (eVar 1) (aCons (eC (.int 0)) (aCons (eBin subD (eCB lenD (aCons (eBin ixD (eVar 0) (eC (.int 1))) aNil)) (eC (.int 1))) aNil)))))) (sRaise "InvalidNumber") sPass)
    (sSeq (sAsg 2 (eC (.int 0)))
    (sSeq (sFor (iSeq (eSlice (eBin ixD (eVar 0) (eC (.int 1))) oNone (oSome (eBin addD (eVar 1) (eC (.int 1)))))) (gN 3) lB_X_needed_for_1)
    (sRet (eVar 2))))))
def F_X_needed_for := runP 5 B_X_needed_for


def B_X_check_both : SS :=
    (sSeq (sExpr (eCallX 1 F_X_check_ladder (aCons (eVar 0) aNil)))
    (sExpr (eCallX 1 F_X_check_ladder (aCons (eVar 1) aNil))))
def F_X_check_both := runP 2 B_X_check_both


def cE_X_pay_rungs_1 : SA :=
    (lBin mulL (eFrz (lLst (aCons (eC (PyData.tuple [.int 0, .int 1])) aNil))) (eBin ixD (eVar 0) (eC (.int 0))))
def lB_X_pay_rungs_3 : SS :=
    (sSet3 2 (eVar 4) (eVar 8) (eCall 2 F_plus (aCons (eIx2 2 (eVar 4) (eVar 8)) (aCons (eCall 2 F_product (aCons (eVar 7) (aCons (eVar 9) aNil))) aNil))))
def lB_X_pay_rungs_2 : SS :=
    (sSeq (sAsg 7 (eIf (bOf (eBin isD (eVar 5) (eC .none))) (eVar 3) (eCall 2 F_lesser (aCons (eVar 3) (aCons (eVar 5) aNil)))))
    (sSeq (sAsg 3 (eCall 2 F_minus (aCons (eVar 3) (aCons (eVar 7) aNil))))
    (sFor (iEnum' (aCons (eVar 6) aNil)) (gTu 2 (gsCons (gN 8) (gsCons (gN 9) gsNil))) lB_X_pay_rungs_3)))
def cE_X_pay_rungs_4 : SE :=
    (eCB tupleD (aCons (eVar 11) aNil))
def B_X_pay_rungs : SS :=
    (sSeq (sExpr (eCallX 1 F_X_check_ladder (aCons (eVar 0) aNil)))
    (sSeq (sExpr (eCallX 1 F_X_check_amount (aCons (eVar 1) aNil)))
    (sSeq (sOw2 2 (iSeq (eBin ixD (eVar 0) (eC (.int 1)))) (gN 10) cE_X_pay_rungs_1 [10])
    (sSeq (sAsg 3 (eVar 1))
    (sSeq (sFor (iSeq (eCall 1 F_pieces_of (aCons (eVar 0) aNil))) (gTu 3 (gsCons (gN 4) (gsCons (gN 5) (gsCons (gN 6) gsNil)))) lB_X_pay_rungs_2)
    (fun ρ W => (sRet (eCB tupleD (aCons (eFrz (lComp (iSeq (eVar 2)) (gN 11) bYes cE_X_pay_rungs_4 [11])) aNil))) (frz2 2 ρ) W))))))
def F_X_pay_rungs := runP 12 B_X_pay_rungs


def lB_X_least_amount_1 : SS :=
    (sSeq (sIf (bNot (bOf (eCall 2 F_is_less (aCons (eBin ixD (eVar 5) (eC (.int 1))) (aCons (eVar 2) aNil))))) (sRet (eBin ixD (eVar 5) (eC (.int 0)))) sPass)
    (sSeq (sAsg 6 (eBin eqD (eBin addD (eVar 4) (eC (.int 1))) (eCB lenD (aCons (eVar 3) aNil))))
    (sIf (bAnd (bOf (eBin neD (eBin ixD (eVar 5) (eC (.int 2))) (eC (PyData.tuple [.int 0, .int 1])))) (bOr (bOf (eVar 6)) (bNot (bOf (eCall 2 F_is_less (aCons (eBin ixD (eBin ixD (eVar 3) (eBin addD (eVar 4) (eC (.int 1)))) (eC (.int 1))) (aCons (eVar 2) aNil))))))) (sRet (eCall 2 F_plus (aCons (eBin ixD (eVar 5) (eC (.int 0))) (aCons (eCall 2 F_quotient (aCons (eCall 2 F_minus (aCons (eVar 2) (aCons (eBin ixD (eVar 5) (eC (.int 1))) aNil))) (aCons (eBin ixD (eVar 5) (eC (.int 2))) aNil))) aNil)))) sPass)))
def B_X_least_amount : SS :=
    (sSeq (sExpr (eCallX 1 F_X_check_ladder (aCons (eVar 0) aNil)))
    (sSeq (sExpr (eCallX 2 F_X_check_holder (aCons (eVar 0) (aCons (eVar 1) aNil))))
    (sSeq (sIf (bNot (bOf (eCall 1 F_is_amount (aCons (eVar 2) aNil)))) (sRaise "InvalidGoal") sPass)
    (sSeq (sAsg 3 (eCall 2 F_found_bends (aCons (eVar 0) (aCons (eVar 1) aNil))))
    (sSeq (sFor (iEnum' (aCons (eVar 3) aNil)) (gTu 2 (gsCons (gN 4) (gsCons (gN 5) gsNil))) lB_X_least_amount_1)
    (sRet (eC .none)))))))
def F_X_least_amount := runP 7 B_X_least_amount


def B_X_bends : SS :=
    (sSeq (sExpr (eCallX 1 F_X_check_ladder (aCons (eVar 0) aNil)))
    (sSeq (sExpr (eCallX 2 F_X_check_holder (aCons (eVar 0) (aCons (eVar 1) aNil))))
    (sRet (eCB tupleD (aCons (eCall 2 F_found_bends (aCons (eVar 0) (aCons (eVar 1) aNil))) aNil)))))
def F_X_bends := runP 2 B_X_bends


def cC_X_rate_after_1 : SB :=
    (bNot (bOf (eCall 2 F_is_less (aCons (eVar 2) (aCons (eBin ixD (eVar 3) (eC (.int 0))) aNil)))))
def cE_X_rate_after_1 : SE :=
    (eVar 3)
def B_X_rate_after : SS :=
    (sSeq (sExpr (eCallX 1 F_X_check_ladder (aCons (eVar 0) aNil)))
    (sSeq (sExpr (eCallX 2 F_X_check_holder (aCons (eVar 0) (aCons (eVar 1) aNil))))
    (sSeq (sExpr (eCallX 1 F_X_check_amount (aCons (eVar 2) aNil)))
    (sRet (eBin ixD (eBin ixD (eFrz (lComp (iSeq (eCall 2 F_found_bends (aCons (eVar 0) (aCons (eVar 1) aNil)))) (gN 3) cC_X_rate_after_1 cE_X_rate_after_1 [3])) (eUn negD (eC (.int 1)))) (eC (.int 2)))))))
def F_X_rate_after := runP 4 B_X_rate_after


def cC_X_extreme_1 (fx : Str) (fg : List Dt → Res Dt) : SB :=
    (bOf (eCall 2 F_is_less (aCons (eVar 2) (aCons (eBin ixD (eVar 10) (eC (.int 0))) aNil))))
def cE_X_extreme_1 (fx : Str) (fg : List Dt → Res Dt) : SE :=
    (eBin ixD (eVar 10) (eC (.int 0)))
def lB_X_extreme_2 (fx : Str) (fg : List Dt → Res Dt) : SS :=
    (sSeq (sAsg 9 (eCall 2 F_quotient (aCons (eCall 2 F_payment_at (aCons (eVar 4) (aCons (eVar 8) aNil))) (aCons (eVar 8) aNil))))
    (sIf (bOr (bOf (eBin isD (eVar 6) (eC .none))) (bOf (eCallF 3 fx 2 fg (aCons (eVar 9) (aCons (eVar 6) aNil))))) (sPar [6, 7] (mD (eVar 9) (mD (eVar 8) mNil))) sPass))
def B_X_extreme (fx : Str) (fg : List Dt → Res Dt) : SS :=
    (sSeq (sExpr (eCallX 1 F_X_check_ladder (aCons (eVar 0) aNil)))
    (sSeq (sExpr (eCallX 2 F_X_check_holder (aCons (eVar 0) (aCons (eVar 1) aNil))))
    (sSeq (sExpr (eCallX 1 F_X_check_amount (aCons (eVar 2) aNil)))
    (sSeq (sIf (bOf (eBin eqD (eBin ixD (eVar 2) (eC (.int 0))) (eC (.int 0)))) (sRaise "InvalidAmount") sPass)
    (sSeq (sAsg 4 (eCall 2 F_found_bends (aCons (eVar 0) (aCons (eVar 1) aNil))))
    (sSeq (sAsg 5 (eCall 1 F_in_order (aCons (eBin addD (eFrz (lLst (aCons (eVar 2) aNil))) (eFrz (lComp (iSeq (eVar 4)) (gN 10) (cC_X_extreme_1 fx fg) (cE_X_extreme_1 fx fg) [10]))) aNil)))
    (sSeq (sPar [6, 7] (mD (eC .none) (mD (eC .none) mNil)))
    (sSeq (sFor (iSeq (eVar 5)) (gN 8) (lB_X_extreme_2 fx fg))
    (sSeq (sIf (bOf (eCallF 3 fx 2 fg (aCons (eBin ixD (eBin ixD (eVar 4) (eUn negD (eC (.int 1)))) (eC (.int 2))) (aCons (eVar 6) aNil)))) (sPar [6, 7] (mD (eBin ixD (eBin ixD (eVar 4) (eUn negD (eC (.int 1)))) (eC (.int 2))) (mD (eC .none) mNil))) sPass)
    (sRet (eTup (aCons (eVar 6) (aCons (eVar 7) aNil)))))))))))))
def F_X_extreme (fx : Str) (fg : List Dt → Res Dt) := runF 11 fx (B_X_extreme fx fg)

def B_X_pay : SS :=
    (sSeq (sExpr (eCallX 1 F_X_check_ladder (aCons (eVar 0) aNil)))
    (sSeq (sExpr (eCallX 1 F_X_check_amount (aCons (eVar 1) aNil)))
    (sRet (eCall 2 F_all_payments (aCons (eVar 0) (aCons (eVar 1) aNil))))))
def F_X_pay := runP 2 B_X_pay


def cE_X_pay_next_1 : SE :=
    (eCall 2 F_minus (aCons (eVar 5) (aCons (eVar 6) aNil)))
def B_X_pay_next : SS :=
    (sSeq (sExpr (eCallX 1 F_X_check_ladder (aCons (eVar 0) aNil)))
    (sSeq (sExpr (eCallX 1 F_X_check_amount (aCons (eVar 1) aNil)))
    (sSeq (sExpr (eCallX 1 F_X_check_amount (aCons (eVar 2) aNil)))
    (sSeq (sPar [3, 4] (mD (eCall 2 F_all_payments (aCons (eVar 0) (aCons (eVar 1) aNil))) (mD (eCall 2 F_all_payments (aCons (eVar 0) (aCons (eCall 2 F_plus (aCons (eVar 1) (aCons (eVar 2) aNil))) aNil))) mNil)))
    (sRet (eCB tupleD (aCons (eFrz (lComp (iZip' (aCons (eVar 4) (aCons (eVar 3) aNil))) (gTu 2 (gsCons (gN 5) (gsCons (gN 6) gsNil))) bYes cE_X_pay_next_1 [5, 6])) aNil)))))))
def F_X_pay_next := runP 7 B_X_pay_next


def B_X_gains : SS :=
    (sSeq (sExpr (eCallX 2 F_X_check_both (aCons (eVar 0) (aCons (eVar 1) aNil))))
    (sSeq (sExpr (eCallX 2 F_X_check_holder (aCons (eVar 0) (aCons (eVar 2) aNil))))
    (sSeq (sExpr (eCallX 2 F_X_check_like (aCons (eVar 0) (aCons (eVar 1) aNil))))
    (sRet (eCB tupleD (aCons (eCall 3 F_found_signs (aCons (eVar 0) (aCons (eVar 1) (aCons (eVar 2) aNil)))) aNil))))))
def F_X_gains := runP 3 B_X_gains


def B_X_greatest_part : SS :=
    (sRet (eCallX 3 (F_X_extreme "greatest_part" F_lam_greatest_part) (aCons (eVar 0) (aCons (eVar 1) (aCons (eVar 2) aNil)))))
def F_X_greatest_part := runP 3 B_X_greatest_part

def B_X_least_part : SS :=
    (sRet (eCallX 3 (F_X_extreme "least_part" F_lam_least_part) (aCons (eVar 0) (aCons (eVar 1) (aCons (eVar 2) aNil)))))
def F_X_least_part := runP 3 B_X_least_part

def B_X_are_alike : SS :=
    (sSeq (sExpr (eCallX 2 F_X_check_both (aCons (eVar 0) (aCons (eVar 1) aNil))))
    (sSeq (sExpr (eCallX 2 F_X_check_like (aCons (eVar 0) (aCons (eVar 1) aNil))))
    (sRet (eBin isD (eCall 2 F_first_parting (aCons (eVar 0) (aCons (eVar 1) aNil))) (eC .none)))))
def F_X_are_alike := runP 2 B_X_are_alike


def B_X_parting_after : SS :=
    (sSeq (sExpr (eCallX 2 F_X_check_both (aCons (eVar 0) (aCons (eVar 1) aNil))))
    (sSeq (sExpr (eCallX 2 F_X_check_like (aCons (eVar 0) (aCons (eVar 1) aNil))))
    (sRet (eCall 2 F_first_parting (aCons (eVar 0) (aCons (eVar 1) aNil))))))
def F_X_parting_after := runP 2 B_X_parting_after


end Sx

namespace Sx
open PySem PySem.Spec PyProof.Rows L2

def B__law_call : SS :=
    (sSeq (sAsgG (gTu 3 (gsCons (gN 2) (gsCons (gN 3) (gsCons (gN 4) gsNil)))) (eSlice (eVar 1) oNone (oSome (eC (.int 3)))))
    (sSeq (sIf (bOf (eBin eqD (eVar 0) (eC (.int 0)))) (sRet (eCallX 1 F_X_reached (aCons (eVar 2) aNil))) sPass)
    (sSeq (sIf (bOf (eBin ltD (eVar 0) (eC (.int 5)))) (sRet (eCallIx ((2, F_X_needed_for) :: ((2, F_X_pay) :: ((2, F_X_pay_rungs) :: ((2, F_X_bends) :: [])))) (eBin subD (eVar 0) (eC (.int 1))) (aCons (eVar 2) (aCons (eVar 3) aNil)))) sPass)
    (sSeq (sIf (bOf (eBin ltD (eVar 0) (eC (.int 12)))) (sAskd 5 ((3, F_X_pay_next) :: ((3, F_X_least_amount) :: ((3, F_X_rate_after) :: ((3, F_X_greatest_part) :: ((3, F_X_least_part) :: ((3, F_X_gains) :: ((3, F_X_joined) :: []))))))) (eBin subD (eVar 0) (eC (.int 5))) (aCons (eVar 2) (aCons (eVar 3) (aCons (eVar 4) aNil)))) sPass)
    (sSeq (sIf (bOf (eBin ltD (eVar 0) (eC (.int 14)))) (sRet (eCallIx ((2, F_X_are_alike) :: ((2, F_X_parting_after) :: [])) (eBin subD (eVar 0) (eC (.int 12))) (aCons (eVar 2) (aCons (eVar 3) aNil)))) sPass)
    (sSeq (sIf (bOf (eBin ltD (eVar 0) (eC (.int 16)))) (sRet (eCallIx ((3, F_X_changed) :: ((3, F_X_settled) :: [])) (eBin subD (eVar 0) (eC (.int 14))) (aCons (eVar 2) (aCons (eVar 3) (aCons (eVar 4) aNil))))) sPass)
    (sRet (eCallX 4 F_X_is_settled (aCons (eVar 2) (aCons (eVar 3) (aCons (eVar 4) (aCons (eBin ixD (eVar 1) (eC (.int 3))) aNil))))))))))))
def F__law_call := runP 6 B__law_call

def B__law_outcome : SS :=
    (sSeq (sAsg 2 (eC .none))
    (sSeq (sAsg 3 (eC .none))
    (sSeq (sTryC 3 2 4 2 F__law_call (aCons (eVar 0) (aCons (eVar 1) aNil)))
    (sSeq (sIf (bOf (eIsN 2)) (sRet (eTup (aCons (eC (.str "returned")) (aCons (eVar 3) aNil)))) sPass)
    (sRet (eTup (aCons (eC (.str "raised")) (aCons (eCallN F__law_name 2) aNil))))))))
def F__law_outcome := runP 5 B__law_outcome

def cC_law_1 : SB :=
    (bOf (eBin isNotD (eCall 1 F_is_ladder (aCons (eVar 13) aNil)) (eC (.bool true))))
def cE_law_1 : SE :=
    (eVar 13)
def cC_law_2 : SB :=
    (bOf (eBin isNotD (eCall 1 F_is_ladder (aCons (eVar 5) aNil)) (eC (.bool false))))
def cE_law_2 : SE :=
    (eVar 5)
def lB_law_3 : SS :=
    (sIf (bOf (eBin neD (eCall 2 F__law_outcome (aCons (eVar 6) (aCons (eTup (aCons (eVar 5) (aCons (eC .none) (aCons (eC .none) (aCons (eC .none) aNil))))) aNil))) (eCall 1 F__law_raises (aCons (eC (.str "ladder")) aNil)))) (sRet (eC (.bool false))) sPass)
def lB_law_4 : SS :=
    (sIf (bOf (eBin neD (eCall 2 F__law_outcome (aCons (eVar 6) (aCons (eTup (aCons (eVar 2) (aCons (eVar 5) (aCons (eC .none) (aCons (eC .none) aNil))))) aNil))) (eCall 1 F__law_raises (aCons (eC (.str "ladder")) aNil)))) (sRet (eC (.bool false))) sPass)
def lB_law_5 : SS :=
    (sSeq (sAsgG (gTu 4 (gsCons (gN 6) (gsCons (gN 10) (gsCons (gN 11) (gsCons (gN 12) gsNil))))) (eCallT 1 F__law_pick (eVar 0) 1 (aCons (eCall 0 F__law_wrongs aNil) aNil)))
    (sIf (bOf (eBin neD (eCall 2 F__law_outcome (aCons (eVar 6) (aCons (eTup (aCons (eVar 7) (aCons (eVar 10) (aCons (eVar 11) aNil)))) aNil))) (eCall 1 F__law_raises (aCons (eVar 12) aNil)))) (sRet (eC (.bool false))) sPass))
def cC_law_6 : SB :=
    (bOf (eBin isNotD (eCall 1 F_is_amount (aCons (eVar 14) aNil)) (eC (.bool true))))
def cE_law_6 : SE :=
    (eVar 14)
def B_law : SS :=
    (sSeq (sTown 1 (lCall 1 F__law_town (aCons (eVar 0) aNil)))
    (sSeq (sAsg 2 (eCallT 1 F__law_ladder (eVar 0) 1 (aCons (eC (.int 5)) aNil)))
    (sSeq (sAsg 3 (eTup (aCons (eC (.str "shares")) (aCons (eTup (aCons (eTup (aCons (eC (.int 0)) (aCons (eC (.int 20)) aNil))) aNil)) (aCons (eTup aNil) aNil)))))
    (sSeq (sOwn 4 (lLst (aCons (eVar 2) (aCons (eTup (aCons (eC (.int 1)) (aCons (eTup (aCons (eVar 3) aNil)) aNil))) (aCons (eTup (aCons (eC (.int 5)) (aCons (eBin addD (eBin mulD (eTup (aCons (eTup (aCons (eC (.str "fixed")) (aCons (eTup (aCons (eTup (aCons (eC (.int 4)) (aCons (eC (.int 999)) aNil))) aNil)) aNil))) aNil)) (eC (.int 3))) (eTup (aCons (eVar 3) aNil))) aNil))) aNil)))))
    (sSeq (sApp 4 (eTup (aCons (eC (.int 1)) (aCons (eTup (aCons (eTup (aCons (eC (.str "shares")) (aCons (eTup (aCons (eTup (aCons (eC (.int 0)) (aCons (eC (.int 1)) aNil))) aNil)) (aCons (eTup (aCons (eTup (aCons (eC (.int 0)) (aCons (eC (.int 9)) aNil))) aNil)) aNil)))) (aCons (eVar 3) aNil))) aNil))))
    (sSeq (fun ρ W => (sIf (bOf (eBin neD (eFrz (lComp (iSeq (eVar 4)) (gN 13) cC_law_1 cE_law_1 [13])) (eFrz (lLst aNil)))) (sRet (eC (.bool false))) sPass) (frzS 4 ρ) W)
    (sSeq (sIf (bOf (eBin neD (eFrz (lComp (iSeq (eCall 0 F__law_bads aNil)) (gN 5) cC_law_2 cE_law_2 [5])) (eFrz (lLst aNil)))) (sRet (eC (.bool false))) sPass)
    (sSeq (sAsg 5 (eCallT 1 F__law_pick (eVar 0) 1 (aCons (eCall 0 F__law_bads aNil) aNil)))
    (sSeq (sFor (iRng (aCons (eC (.int 17)) aNil)) (gN 6) lB_law_3)
    (sSeq (sFor (iSeq (eTup (aCons (eC (.int 10)) (aCons (eC (.int 12)) (aCons (eC (.int 13)) aNil))))) (gN 6) lB_law_4)
    (sSeq (sAsg 7 (eTup (aCons (eC (.int 2)) (aCons (eTup (aCons (eTup (aCons (eC (.str "fixed")) (aCons (eTup (aCons (eTup (aCons (eC (.int 0)) (aCons (eC (.int 9)) aNil))) aNil)) aNil))) (aCons (eTup (aCons (eC (.str "shares")) (aCons (eTup (aCons (eTup (aCons (eC (.int 0)) (aCons (eC (.int 1)) aNil))) (aCons (eTup (aCons (eC (.int 1)) (aCons (eC (.int 3)) aNil))) aNil))) (aCons (eTup aNil) aNil)))) aNil))) aNil))))
    (sSeq (sFor (iRng (aCons (eC (.int 40)) aNil)) (gN 8) lB_law_5)
    (sSeq (sAsg 9 (eFrz (lLst (aCons (eTup (aCons (eC (.int 0)) (aCons (eC (.int 1)) aNil))) (aCons (eTup (aCons (eC (.int 1000000)) (aCons (eC (.int 1)) aNil))) (aCons (eTup (aCons (eC (.int 1)) (aCons (eC (.int 1000)) aNil))) (aCons (eTup (aCons (eC (.int 999999999)) (aCons (eC (.int 1000)) aNil))) aNil)))))))
    (sSeq (sIf (bOr (bOf (eBin neD (eFrz (lComp (iSeq (eVar 9)) (gN 14) cC_law_6 cE_law_6 [14])) (eFrz (lLst aNil)))) (bOf (eBin isNotD (eCall 1 F_is_amount (aCons (eTup (aCons (eC (.int 1000000001)) (aCons (eC (.int 1000)) aNil))) aNil)) (eC (.bool false))))) (sRet (eC (.bool false))) sPass)
    (sSeq (sIf (bOf (eBin neD (eCall 2 F__law_outcome (aCons (eC (.int 12)) (aCons (eTup (aCons (eVar 7) (aCons (eTup (aCons (eC (.int 1)) (aCons (eTup (aCons (eVar 3) aNil)) aNil))) (aCons (eC .none) aNil)))) aNil))) (eCall 1 F__law_raises (aCons (eC (.str "unlike")) aNil)))) (sRet (eC (.bool false))) sPass)
    (sRet (eAnd (eBin eqD (eCall 2 F__law_outcome (aCons (eC (.int 10)) (aCons (eTup (aCons (eVar 7) (aCons (eVar 7) (aCons (eC (.int 2)) aNil)))) aNil))) (eCall 1 F__law_raises (aCons (eC (.str "holder")) aNil))) (eBin eqD (eCall 2 F_pay (aCons (eVar 7) (aCons (eTup (aCons (eC (.int 0)) (aCons (eC (.int 1)) aNil))) aNil))) (eTup (aCons (eTup (aCons (eC (.int 0)) (aCons (eC (.int 1)) aNil))) (aCons (eTup (aCons (eC (.int 0)) (aCons (eC (.int 1)) aNil))) aNil)))))))))))))))))))))
def F_law := runP 15 B_law

theorem sc_is_between : FnScope ["value", "low", "high"] ["value", "low", "high"] (defScope (top 18)) := ⟨rfl, rfl, rfl, by decide +kernel, rfl, by decide +kernel, by decide +kernel⟩
theorem cal_is_between {P : Program} {w : World} {K : PySem.W.Frag} {mg : Str → Option Value} {base : Heap} (g : Glob K mg) (F : ∃ f fd, FnP K "is_between" (top 18) f fd ∧ mg "is_between" = some (.ref f))  : CalP P w K mg base "is_between" 1 3 ["value", "low", "high"] F_is_between := by
  obtain ⟨f, fd, F, hm⟩ := F
  refine ⟨f, fd, ?_, hm, F.kp, F.bindsN fun _ _ _ _ _ _ us hl => match us, hl with | [_, _, _], _ => rfl⟩
  have sc := sc_is_between
  refine fn_P (toFun F) sc rfl fun cdv A outer s H E hr => ?_
  have hu := units64 hr
  have hu5 := units65 hr
  have hu1 := units1 hr
  exact (s_one (s_ret (d_and (d_isi rfl g.isinstance rfl g.int_ (by decide +kernel) (d_r (d_var (pv 0)))) (d_and (d_not (d_isi rfl g.isinstance rfl g.bool_ (by decide +kernel) (d_r (d_var (pv 0))))) (d_one (d_chain op_leD op_leD (d_r (d_var (pv 1))) (d_r (d_var (pv 0))) (d_r (d_var (pv 2)))))))))

theorem sc_divisor : FnScope ["one", "other"] ["one", "other"] (defScope (top 19)) := ⟨rfl, rfl, rfl, by decide +kernel, rfl, by decide +kernel, by decide +kernel⟩
theorem cal_divisor {P : Program} {w : World} {K : PySem.W.Frag} {mg : Str → Option Value} {base : Heap} (g : Glob K mg) (F : ∃ f fd, FnP K "divisor" (top 19) f fd ∧ mg "divisor" = some (.ref f))  : CalP P w K mg base "divisor" 1 2 ["one", "other"] F_divisor := by
  obtain ⟨f, fd, F, hm⟩ := F
  refine ⟨f, fd, ?_, hm, F.kp, F.bindsN fun _ _ _ _ _ _ us hl => match us, hl with | [_, _], _ => rfl⟩
  have sc := sc_divisor
  refine fn_P (toFun F) sc rfl fun cdv A outer s H E hr => ?_
  have hu := units64 hr
  have hu5 := units65 hr
  have hu1 := units1 hr
  exact (s_cons (s_while PassesOwn.never (c_cmp (op_neQ hu) (d_r (d_var (pv 1))) (d_r d_int) (nomark _)) (s_one (s_par2 (ps_par (i := 0) (j := 1) rfl sc.nd rfl rfl (by decide) rfl rfl (m_d (d_var (pv 1)) (m_d (d_bin op_modD (d_r (d_var (pv 0))) (d_r (d_var (pv 1)))) m_nil)) rfl))))
    (s_one (s_ret (d_callB cb_abs rfl g.abs_ (by decide +kernel) (r_cons (d_r (d_var (pv 0))) r_nil)))))

theorem sc_fraction : FnScope ["top", "bottom", "shared"] ["top", "bottom"] (defScope (top 20)) := ⟨rfl, rfl, rfl, by decide +kernel, rfl, by decide +kernel, by decide +kernel⟩
theorem cal_fraction {P : Program} {w : World} {K : PySem.W.Frag} {mg : Str → Option Value} {base : Heap} (g : Glob K mg) (F : ∃ f fd, FnP K "fraction" (top 20) f fd ∧ mg "fraction" = some (.ref f)) (c_divisor : CalP P w K mg base "divisor" 1 2 ["one", "other"] F_divisor) : CalP P w K mg base "fraction" 2 2 ["top", "bottom"] F_fraction := by
  obtain ⟨f, fd, F, hm⟩ := F
  obtain ⟨f_divisor, fd_divisor, ok_divisor, mg_divisor, kp_divisor, bd_divisor⟩ := c_divisor
  refine ⟨f, fd, ?_, hm, F.kp, F.bindsN fun _ _ _ _ _ _ us hl => match us, hl with | [_, _], _ => rfl⟩
  have sc := sc_fraction
  refine fn_P (toFun F) sc rfl fun cdv A outer s H E hr => ?_
  have hu := units64 hr
  have hu5 := units65 hr
  have hu1 := units1 hr
  exact (s_cons (s_asg (ps_set (i := 2) sc.nd rfl (Or.inl rfl) (d_call ok_divisor (hr.mono (by decide : 1 ≤ 1)) rfl mg_divisor kp_divisor bd_divisor (a_cons (d_var (pv 0)) (a_cons (d_var (pv 1)) a_nil)))))
    (s_one (s_ret (d_tup (a_cons (d_bin op_fdivD (d_r (d_var (pv 0))) (d_r (d_var (pv 2)))) (a_cons (d_bin op_fdivD (d_r (d_var (pv 1))) (d_r (d_var (pv 2)))) a_nil))))))

theorem sc_plus : FnScope ["one", "other"] ["one", "other"] (defScope (top 21)) := ⟨rfl, rfl, rfl, by decide +kernel, rfl, by decide +kernel, by decide +kernel⟩
theorem cal_plus {P : Program} {w : World} {K : PySem.W.Frag} {mg : Str → Option Value} {base : Heap} (g : Glob K mg) (F : ∃ f fd, FnP K "plus" (top 21) f fd ∧ mg "plus" = some (.ref f)) (c_fraction : CalP P w K mg base "fraction" 2 2 ["top", "bottom"] F_fraction) : CalP P w K mg base "plus" 3 2 ["one", "other"] F_plus := by
  obtain ⟨f, fd, F, hm⟩ := F
  obtain ⟨f_fraction, fd_fraction, ok_fraction, mg_fraction, kp_fraction, bd_fraction⟩ := c_fraction
  refine ⟨f, fd, ?_, hm, F.kp, F.bindsN fun _ _ _ _ _ _ us hl => match us, hl with | [_, _], _ => rfl⟩
  have sc := sc_plus
  refine fn_P (toFun F) sc rfl fun cdv A outer s H E hr => ?_
  have hu := units64 hr
  have hu5 := units65 hr
  have hu1 := units1 hr
  exact (s_one (s_ret (d_call ok_fraction (hr.mono (by decide : 2 ≤ 2)) rfl mg_fraction kp_fraction bd_fraction (a_cons (d_bin op_addD (d_r (d_bin op_mulD (d_r (d_ix ix_D (d_r (d_var (pv 0))) (d_r d_int) (fun _ _ => rfl))) (d_r (d_ix ix_D (d_r (d_var (pv 1))) (d_r d_int) (fun _ _ => rfl))))) (d_r (d_bin op_mulD (d_r (d_ix ix_D (d_r (d_var (pv 1))) (d_r d_int) (fun _ _ => rfl))) (d_r (d_ix ix_D (d_r (d_var (pv 0))) (d_r d_int) (fun _ _ => rfl)))))) (a_cons (d_bin op_mulD (d_r (d_ix ix_D (d_r (d_var (pv 0))) (d_r d_int) (fun _ _ => rfl))) (d_r (d_ix ix_D (d_r (d_var (pv 1))) (d_r d_int) (fun _ _ => rfl)))) a_nil)))))

theorem sc_minus : FnScope ["one", "other"] ["one", "other"] (defScope (top 22)) := ⟨rfl, rfl, rfl, by decide +kernel, rfl, by decide +kernel, by decide +kernel⟩
theorem cal_minus {P : Program} {w : World} {K : PySem.W.Frag} {mg : Str → Option Value} {base : Heap} (g : Glob K mg) (F : ∃ f fd, FnP K "minus" (top 22) f fd ∧ mg "minus" = some (.ref f)) (c_plus : CalP P w K mg base "plus" 3 2 ["one", "other"] F_plus) : CalP P w K mg base "minus" 4 2 ["one", "other"] F_minus := by
  obtain ⟨f, fd, F, hm⟩ := F
  obtain ⟨f_plus, fd_plus, ok_plus, mg_plus, kp_plus, bd_plus⟩ := c_plus
  refine ⟨f, fd, ?_, hm, F.kp, F.bindsN fun _ _ _ _ _ _ us hl => match us, hl with | [_, _], _ => rfl⟩
  have sc := sc_minus
  refine fn_P (toFun F) sc rfl fun cdv A outer s H E hr => ?_
  have hu := units64 hr
  have hu5 := units65 hr
  have hu1 := units1 hr
  exact (s_one (s_ret (d_call ok_plus (hr.mono (by decide : 3 ≤ 3)) rfl mg_plus kp_plus bd_plus (a_cons (d_var (pv 0)) (a_cons (d_tup (a_cons (d_un un_negD (d_r (d_ix ix_D (d_r (d_var (pv 1))) (d_r d_int) (fun _ _ => rfl)))) (a_cons (d_ix ix_D (d_r (d_var (pv 1))) (d_r d_int) (fun _ _ => rfl)) a_nil))) a_nil)))))

theorem sc_product : FnScope ["one", "other"] ["one", "other"] (defScope (top 23)) := ⟨rfl, rfl, rfl, by decide +kernel, rfl, by decide +kernel, by decide +kernel⟩
theorem cal_product {P : Program} {w : World} {K : PySem.W.Frag} {mg : Str → Option Value} {base : Heap} (g : Glob K mg) (F : ∃ f fd, FnP K "product" (top 23) f fd ∧ mg "product" = some (.ref f)) (c_fraction : CalP P w K mg base "fraction" 2 2 ["top", "bottom"] F_fraction) : CalP P w K mg base "product" 3 2 ["one", "other"] F_product := by
  obtain ⟨f, fd, F, hm⟩ := F
  obtain ⟨f_fraction, fd_fraction, ok_fraction, mg_fraction, kp_fraction, bd_fraction⟩ := c_fraction
  refine ⟨f, fd, ?_, hm, F.kp, F.bindsN fun _ _ _ _ _ _ us hl => match us, hl with | [_, _], _ => rfl⟩
  have sc := sc_product
  refine fn_P (toFun F) sc rfl fun cdv A outer s H E hr => ?_
  have hu := units64 hr
  have hu5 := units65 hr
  have hu1 := units1 hr
  exact (s_one (s_ret (d_call ok_fraction (hr.mono (by decide : 2 ≤ 2)) rfl mg_fraction kp_fraction bd_fraction (a_cons (d_bin op_mulD (d_r (d_ix ix_D (d_r (d_var (pv 0))) (d_r d_int) (fun _ _ => rfl))) (d_r (d_ix ix_D (d_r (d_var (pv 1))) (d_r d_int) (fun _ _ => rfl)))) (a_cons (d_bin op_mulD (d_r (d_ix ix_D (d_r (d_var (pv 0))) (d_r d_int) (fun _ _ => rfl))) (d_r (d_ix ix_D (d_r (d_var (pv 1))) (d_r d_int) (fun _ _ => rfl)))) a_nil)))))

theorem sc_quotient : FnScope ["one", "other"] ["one", "other"] (defScope (top 24)) := ⟨rfl, rfl, rfl, by decide +kernel, rfl, by decide +kernel, by decide +kernel⟩
theorem cal_quotient {P : Program} {w : World} {K : PySem.W.Frag} {mg : Str → Option Value} {base : Heap} (g : Glob K mg) (F : ∃ f fd, FnP K "quotient" (top 24) f fd ∧ mg "quotient" = some (.ref f)) (c_fraction : CalP P w K mg base "fraction" 2 2 ["top", "bottom"] F_fraction) : CalP P w K mg base "quotient" 3 2 ["one", "other"] F_quotient := by
  obtain ⟨f, fd, F, hm⟩ := F
  obtain ⟨f_fraction, fd_fraction, ok_fraction, mg_fraction, kp_fraction, bd_fraction⟩ := c_fraction
  refine ⟨f, fd, ?_, hm, F.kp, F.bindsN fun _ _ _ _ _ _ us hl => match us, hl with | [_, _], _ => rfl⟩
  have sc := sc_quotient
  refine fn_P (toFun F) sc rfl fun cdv A outer s H E hr => ?_
  have hu := units64 hr
  have hu5 := units65 hr
  have hu1 := units1 hr
  exact (s_one (s_ret (d_call ok_fraction (hr.mono (by decide : 2 ≤ 2)) rfl mg_fraction kp_fraction bd_fraction (a_cons (d_bin op_mulD (d_r (d_ix ix_D (d_r (d_var (pv 0))) (d_r d_int) (fun _ _ => rfl))) (d_r (d_ix ix_D (d_r (d_var (pv 1))) (d_r d_int) (fun _ _ => rfl)))) (a_cons (d_bin op_mulD (d_r (d_ix ix_D (d_r (d_var (pv 0))) (d_r d_int) (fun _ _ => rfl))) (d_r (d_ix ix_D (d_r (d_var (pv 1))) (d_r d_int) (fun _ _ => rfl)))) a_nil)))))

theorem sc_is_less : FnScope ["one", "other"] ["one", "other"] (defScope (top 25)) := ⟨rfl, rfl, rfl, by decide +kernel, rfl, by decide +kernel, by decide +kernel⟩
theorem cal_is_less {P : Program} {w : World} {K : PySem.W.Frag} {mg : Str → Option Value} {base : Heap} (g : Glob K mg) (F : ∃ f fd, FnP K "is_less" (top 25) f fd ∧ mg "is_less" = some (.ref f))  : CalP P w K mg base "is_less" 1 2 ["one", "other"] F_is_less := by
  obtain ⟨f, fd, F, hm⟩ := F
  refine ⟨f, fd, ?_, hm, F.kp, F.bindsN fun _ _ _ _ _ _ us hl => match us, hl with | [_, _], _ => rfl⟩
  have sc := sc_is_less
  refine fn_P (toFun F) sc rfl fun cdv A outer s H E hr => ?_
  have hu := units64 hr
  have hu5 := units65 hr
  have hu1 := units1 hr
  exact (s_one (s_ret (d_cmp op_ltD (d_r (d_bin op_mulD (d_r (d_ix ix_D (d_r (d_var (pv 0))) (d_r d_int) (fun _ _ => rfl))) (d_r (d_ix ix_D (d_r (d_var (pv 1))) (d_r d_int) (fun _ _ => rfl))))) (d_r (d_bin op_mulD (d_r (d_ix ix_D (d_r (d_var (pv 1))) (d_r d_int) (fun _ _ => rfl))) (d_r (d_ix ix_D (d_r (d_var (pv 0))) (d_r d_int) (fun _ _ => rfl))))) (nomark _))))

theorem sc_lesser : FnScope ["one", "other"] ["one", "other"] (defScope (top 26)) := ⟨rfl, rfl, rfl, by decide +kernel, rfl, by decide +kernel, by decide +kernel⟩
theorem cal_lesser {P : Program} {w : World} {K : PySem.W.Frag} {mg : Str → Option Value} {base : Heap} (g : Glob K mg) (F : ∃ f fd, FnP K "lesser" (top 26) f fd ∧ mg "lesser" = some (.ref f)) (c_is_less : CalP P w K mg base "is_less" 1 2 ["one", "other"] F_is_less) : CalP P w K mg base "lesser" 2 2 ["one", "other"] F_lesser := by
  obtain ⟨f, fd, F, hm⟩ := F
  obtain ⟨f_is_less, fd_is_less, ok_is_less, mg_is_less, kp_is_less, bd_is_less⟩ := c_is_less
  refine ⟨f, fd, ?_, hm, F.kp, F.bindsN fun _ _ _ _ _ _ us hl => match us, hl with | [_, _], _ => rfl⟩
  have sc := sc_lesser
  refine fn_P (toFun F) sc rfl fun cdv A outer s H E hr => ?_
  have hu := units64 hr
  have hu5 := units65 hr
  have hu1 := units1 hr
  exact (s_one (s_ret (d_if (c_val (d_call ok_is_less (hr.mono (by decide : 1 ≤ 1)) rfl mg_is_less kp_is_less bd_is_less (a_cons (d_var (pv 1)) (a_cons (d_var (pv 0)) a_nil)))) (d_var (pv 1)) (d_var (pv 0)))))

theorem sc_are_pairs : FnScope ["holders", "value", "most", "least", "pair", "k"] ["holders", "value", "most", "least"] (defScope (top 27)) := ⟨rfl, rfl, rfl, by decide +kernel, rfl, by decide +kernel, by decide +kernel⟩
theorem cal_are_pairs {P : Program} {w : World} {K : PySem.W.Frag} {mg : Str → Option Value} {base : Heap} (g : Glob K mg) (F : ∃ f fd, FnP K "are_pairs" (top 27) f fd ∧ mg "are_pairs" = some (.ref f)) (c_is_between : CalP P w K mg base "is_between" 1 3 ["value", "low", "high"] F_is_between) : CalP P w K mg base "are_pairs" 2 4 ["holders", "value", "most", "least"] F_are_pairs := by
  obtain ⟨f, fd, F, hm⟩ := F
  obtain ⟨f_is_between, fd_is_between, ok_is_between, mg_is_between, kp_is_between, bd_is_between⟩ := c_is_between
  refine ⟨f, fd, ?_, hm, F.kp, F.bindsN fun _ _ _ _ _ _ us hl => match us, hl with | [_, _, _, _], _ => rfl⟩
  have sc := sc_are_pairs
  refine fn_P (toFun F) sc rfl fun cdv A outer s H E hr => ?_
  have hu := units64 hr
  have hu5 := units65 hr
  have hu1 := units1 hr
  exact (s_cons (s_if (PW.pt (c_or (c_not (c_val (d_isi rfl g.isinstance rfl g.tuple_ (by decide +kernel) (d_r (d_var (pv 1)))))) (c_or1 (c_cmp op_ltD (d_r (d_callB cb_len rfl g.len_ (by decide +kernel) (r_cons (d_r (d_var (pv 1))) r_nil))) (d_r (d_var (pv 3))) (nomark _))))) (s_one (s_ret d_bl)) s_nil)
    (s_cons (s_for PassesOwn.never rfl (i_seq (d_var (pv 1))) (g_name (pg_name (i := 4) sc.nd rfl (Or.inl rfl))) (s_cons (s_if (PW.pt (c_or (c_not (c_val (d_isi rfl g.isinstance rfl g.tuple_ (by decide +kernel) (d_r (d_var (pv 4)))))) (c_or (c_cmp (op_neQ hu) (d_r (d_callB cb_len rfl g.len_ (by decide +kernel) (r_cons (d_r (d_var (pv 4))) r_nil))) (d_r d_int) (nomark _)) (c_or1 (c_not (c_val (d_call ok_is_between (hr.mono (by decide : 1 ≤ 1)) rfl mg_is_between kp_is_between bd_is_between (a_cons (d_ix ix_D (d_r (d_var (pv 4))) (d_r d_int) (fun _ _ => rfl)) (a_cons d_int (a_cons (d_bin op_subD (d_r (d_var (pv 0))) (d_r d_int)) a_nil)))))))))) (s_one (s_ret d_bl)) s_nil)
    (s_one (s_if (c_not (c_val (d_call ok_is_between (hr.mono (by decide : 1 ≤ 1)) rfl mg_is_between kp_is_between bd_is_between (a_cons (d_ix ix_D (d_r (d_var (pv 4))) (d_r d_int) (fun _ _ => rfl)) (a_cons d_int (a_cons (d_var (pv 2)) a_nil)))))) (s_one (s_ret d_bl)) s_nil))))
    (s_one (s_ret (d_callB (cb_all rfl) rfl g.all_ (by decide +kernel) (r_cons (d_r (d_frz (l_comp (own := [("k", 5)]) rfl sc.nd (i_rng rfl g.range_ (a_cons (d_bin op_subD (d_r (d_callB cb_len rfl g.len_ (by decide +kernel) (r_cons (d_r (d_var (pv 1))) r_nil))) (d_r d_int)) a_nil)) (blkOk_by (own := [("k", 5)]) (N := ["holders", "value", "most", "least", "pair", "k"]) (sc := defScope (top 27)) (by decide +kernel)) (fun _ _ _ _ _ => (g_name (pg_name (i := 5) sc.nd rfl (Or.inl rfl)))) (fun _ _ _ _ _ => t_yes) (fun _ _ _ _ _ => (d_cmp op_ltD (d_r (d_ix ix_D (d_r (d_ix ix_D (d_r (d_var (pv 1))) (d_r (d_var (pv 5))) (fun _ _ => rfl))) (d_r d_int) (fun _ _ => rfl))) (d_r (d_ix ix_D (d_r (d_ix ix_D (d_r (d_var (pv 1))) (d_r (d_bin op_addD (d_r (d_var (pv 5))) (d_r d_int))) (fun _ _ => rfl))) (d_r d_int) (fun _ _ => rfl))) (nomark _))) (by decide)))) r_nil))))))

theorem sc_is_rung : FnScope ["holders", "value", "some", "holder", "weight", "cap"] ["holders", "value"] (defScope (top 28)) := ⟨rfl, rfl, rfl, by decide +kernel, rfl, by decide +kernel, by decide +kernel⟩
theorem cal_is_rung {P : Program} {w : World} {K : PySem.W.Frag} {mg : Str → Option Value} {base : Heap} (g : Glob K mg) (F : ∃ f fd, FnP K "is_rung" (top 28) f fd ∧ mg "is_rung" = some (.ref f)) (c_are_pairs : CalP P w K mg base "are_pairs" 2 4 ["holders", "value", "most", "least"] F_are_pairs) : CalP P w K mg base "is_rung" 3 2 ["holders", "value"] F_is_rung := by
  obtain ⟨f, fd, F, hm⟩ := F
  obtain ⟨f_are_pairs, fd_are_pairs, ok_are_pairs, mg_are_pairs, kp_are_pairs, bd_are_pairs⟩ := c_are_pairs
  refine ⟨f, fd, ?_, hm, F.kp, F.bindsN fun _ _ _ _ _ _ us hl => match us, hl with | [_, _], _ => rfl⟩
  have sc := sc_is_rung
  refine fn_P (toFun F) sc rfl fun cdv A outer s H E hr => ?_
  have hu := units64 hr
  have hu5 := units65 hr
  have hu1 := units1 hr
  exact (s_cons (s_if (PW.pt (c_or (c_not (c_val (d_isi rfl g.isinstance rfl g.tuple_ (by decide +kernel) (d_r (d_var (pv 1)))))) (c_or (c_not (c_chain op_leD op_leD (d_r d_int) (d_r (d_callB cb_len rfl g.len_ (by decide +kernel) (r_cons (d_r (d_var (pv 1))) r_nil))) (d_r d_int))) (c_or1 (c_not (c_val (d_isi rfl g.isinstance rfl g.str_ (by decide +kernel) (d_r (d_ix ix_D (d_r (d_var (pv 1))) (d_r d_int) (fun _ _ => rfl)))))))))) (s_one (s_ret d_bl)) s_nil)
    (s_cons (s_if (c_cmp (op_eqQ hu) (d_r (d_ix ix_D (d_r (d_var (pv 1))) (d_r d_int) (fun _ _ => rfl))) (d_r d_str) (nomark _)) (s_one (s_ret (d_and (d_cmp (op_eqQ hu) (d_r (d_callB cb_len rfl g.len_ (by decide +kernel) (r_cons (d_r (d_var (pv 1))) r_nil))) (d_r d_int) (nomark _)) (d_one (d_call ok_are_pairs (hr.mono (by decide : 2 ≤ 2)) rfl mg_are_pairs kp_are_pairs bd_are_pairs (a_cons (d_var (pv 0)) (a_cons (d_ix ix_D (d_r (d_var (pv 1))) (d_r d_int) (fun _ _ => rfl)) (a_cons d_int (a_cons d_int a_nil))))))))) s_nil)
    (s_cons (s_if (PW.pt (c_or (c_cmp (op_neQ hu) (d_r (d_ix ix_D (d_r (d_var (pv 1))) (d_r d_int) (fun _ _ => rfl))) (d_r d_str) (nomark _)) (c_or1 (c_cmp (op_neQ hu) (d_r (d_callB cb_len rfl g.len_ (by decide +kernel) (r_cons (d_r (d_var (pv 1))) r_nil))) (d_r d_int) (nomark _))))) (s_one (s_ret d_bl)) s_nil)
    (s_cons (s_if (PW.pt (c_or (c_not (c_val (d_call ok_are_pairs (hr.mono (by decide : 2 ≤ 2)) rfl mg_are_pairs kp_are_pairs bd_are_pairs (a_cons (d_var (pv 0)) (a_cons (d_ix ix_D (d_r (d_var (pv 1))) (d_r d_int) (fun _ _ => rfl)) (a_cons d_int (a_cons d_int a_nil))))))) (c_or1 (c_not (c_val (d_call ok_are_pairs (hr.mono (by decide : 2 ≤ 2)) rfl mg_are_pairs kp_are_pairs bd_are_pairs (a_cons (d_var (pv 0)) (a_cons (d_ix ix_D (d_r (d_var (pv 1))) (d_r d_int) (fun _ _ => rfl)) (a_cons d_int (a_cons d_int a_nil)))))))))) (s_one (s_ret d_bl)) s_nil)
    (s_cons (s_asg (ps_set (i := 2) sc.nd rfl (Or.inr rfl) (d_frz (l_comp (own := [("holder", 3), ("weight", 4)]) rfl sc.nd (i_seq (d_ix ix_D (d_r (d_var (pv 1))) (d_r d_int) (fun _ _ => rfl))) (blkOk_by (own := [("holder", 3), ("weight", 4)]) (N := ["holders", "value", "some", "holder", "weight", "cap"]) (sc := defScope (top 28)) (by decide +kernel)) (fun _ _ _ _ _ => (g_tup rfl (gs_cons (g_name (pg_name (i := 3) sc.nd rfl (Or.inl rfl))) (gs_cons (g_name (pg_name (i := 4) sc.nd rfl (Or.inl rfl))) gs_nil)))) (fun _ _ _ _ _ => t_yes) (fun _ _ _ _ _ => (d_var (pv 3))) (by decide)))))
    (s_one (s_ret (d_callB (cb_all rfl) rfl g.all_ (by decide +kernel) (r_cons (d_r (d_frz (l_comp (own := [("holder", 3), ("cap", 5)]) rfl sc.nd (i_seq (d_ix ix_D (d_r (d_var (pv 1))) (d_r d_int) (fun _ _ => rfl))) (blkOk_by (own := [("holder", 3), ("cap", 5)]) (N := ["holders", "value", "some", "holder", "weight", "cap"]) (sc := defScope (top 28)) (by decide +kernel)) (fun _ _ _ _ _ => (g_tup rfl (gs_cons (g_name (pg_name (i := 3) sc.nd rfl (Or.inl rfl))) (gs_cons (g_name (pg_name (i := 5) sc.nd rfl (Or.inl rfl))) gs_nil)))) (fun _ _ _ _ _ => t_yes) (fun _ _ _ _ _ => (d_cmp (op_inQ hu5) (d_r (d_var (pv 3))) (d_r (d_var (pv 2))) (by rfl))) (by decide)))) r_nil)))))))))

theorem sc_is_endless : FnScope ["rung"] ["rung"] (defScope (top 29)) := ⟨rfl, rfl, rfl, by decide +kernel, rfl, by decide +kernel, by decide +kernel⟩
theorem cal_is_endless {P : Program} {w : World} {K : PySem.W.Frag} {mg : Str → Option Value} {base : Heap} (g : Glob K mg) (F : ∃ f fd, FnP K "is_endless" (top 29) f fd ∧ mg "is_endless" = some (.ref f))  : CalP P w K mg base "is_endless" 1 1 ["rung"] F_is_endless := by
  obtain ⟨f, fd, F, hm⟩ := F
  refine ⟨f, fd, ?_, hm, F.kp, F.bindsN fun _ _ _ _ _ _ us hl => match us, hl with | [_], _ => rfl⟩
  have sc := sc_is_endless
  refine fn_P (toFun F) sc rfl fun cdv A outer s H E hr => ?_
  have hu := units64 hr
  have hu5 := units65 hr
  have hu1 := units1 hr
  exact (s_one (s_ret (d_and (d_cmp (op_eqQ hu) (d_r (d_ix ix_D (d_r (d_var (pv 0))) (d_r d_int) (fun _ _ => rfl))) (d_r d_str) (nomark _)) (d_one (d_cmp op_ltD (d_r (d_callB cb_len rfl g.len_ (by decide +kernel) (r_cons (d_r (d_ix ix_D (d_r (d_var (pv 0))) (d_r d_int) (fun _ _ => rfl))) r_nil))) (d_r (d_callB cb_len rfl g.len_ (by decide +kernel) (r_cons (d_r (d_ix ix_D (d_r (d_var (pv 0))) (d_r d_int) (fun _ _ => rfl))) r_nil))) (nomark _))))))

theorem sc_is_ladder : FnScope ["value", "holders", "rungs", "rung"] ["value"] (defScope (top 30)) := ⟨rfl, rfl, rfl, by decide +kernel, rfl, by decide +kernel, by decide +kernel⟩
theorem cal_is_ladder {P : Program} {w : World} {K : PySem.W.Frag} {mg : Str → Option Value} {base : Heap} (g : Glob K mg) (F : ∃ f fd, FnP K "is_ladder" (top 30) f fd ∧ mg "is_ladder" = some (.ref f)) (c_is_endless : CalP P w K mg base "is_endless" 1 1 ["rung"] F_is_endless) (c_is_between : CalP P w K mg base "is_between" 1 3 ["value", "low", "high"] F_is_between) (c_is_rung : CalP P w K mg base "is_rung" 3 2 ["holders", "value"] F_is_rung) : CalP P w K mg base "is_ladder" 4 1 ["value"] F_is_ladder := by
  obtain ⟨f, fd, F, hm⟩ := F
  obtain ⟨f_is_endless, fd_is_endless, ok_is_endless, mg_is_endless, kp_is_endless, bd_is_endless⟩ := c_is_endless
  obtain ⟨f_is_between, fd_is_between, ok_is_between, mg_is_between, kp_is_between, bd_is_between⟩ := c_is_between
  obtain ⟨f_is_rung, fd_is_rung, ok_is_rung, mg_is_rung, kp_is_rung, bd_is_rung⟩ := c_is_rung
  refine ⟨f, fd, ?_, hm, F.kp, F.bindsN fun _ _ _ _ _ _ us hl => match us, hl with | [_], _ => rfl⟩
  have sc := sc_is_ladder
  refine fn_P (toFun F) sc rfl fun cdv A outer s H E hr => ?_
  have hu := units64 hr
  have hu5 := units65 hr
  have hu1 := units1 hr
  exact (s_cons (s_if (PW.pt (c_or (c_not (c_val (d_isi rfl g.isinstance rfl g.tuple_ (by decide +kernel) (d_r (d_var (pv 0)))))) (c_or (c_cmp (op_neQ hu) (d_r (d_callB cb_len rfl g.len_ (by decide +kernel) (r_cons (d_r (d_var (pv 0))) r_nil))) (d_r d_int) (nomark _)) (c_or1 (c_not (c_val (d_call ok_is_between (hr.mono (by decide : 1 ≤ 3)) rfl mg_is_between kp_is_between bd_is_between (a_cons (d_ix ix_D (d_r (d_var (pv 0))) (d_r d_int) (fun _ _ => rfl)) (a_cons d_int (a_cons d_int a_nil)))))))))) (s_one (s_ret d_bl)) s_nil)
    (s_cons (s_asgG (ps_asg (d_var (pv 0)) (g_tup rfl (gs_cons (g_name (pg_name (i := 1) sc.nd rfl (Or.inr rfl))) (gs_cons (g_name (pg_name (i := 2) sc.nd rfl (Or.inl rfl))) gs_nil)))))
    (s_cons (s_if (PW.pt (c_or (c_not (c_val (d_isi rfl g.isinstance rfl g.tuple_ (by decide +kernel) (d_r (d_var (pv 2)))))) (c_or1 (c_not (c_chain op_leD op_leD (d_r d_int) (d_r (d_callB cb_len rfl g.len_ (by decide +kernel) (r_cons (d_r (d_var (pv 2))) r_nil))) (d_r d_int)))))) (s_one (s_ret d_bl)) s_nil)
    (s_one (s_ret (d_and (d_callB (cb_all rfl) rfl g.all_ (by decide +kernel) (r_cons (d_r (d_frz (l_comp (own := [("rung", 3)]) rfl sc.nd (i_seq (d_var (pv 2))) (blkOk_by (own := [("rung", 3)]) (N := ["value", "holders", "rungs", "rung"]) (sc := defScope (top 30)) (by decide +kernel)) (fun _ _ _ _ _ => (g_name (pg_name (i := 3) sc.nd rfl (Or.inl rfl)))) (fun _ _ _ _ _ => t_yes) (fun _ _ _ _ _ => (d_call ok_is_rung (hr.mono (by decide : 3 ≤ 3)) rfl mg_is_rung kp_is_rung bd_is_rung (a_cons (d_var (pv 1)) (a_cons (d_var (pv 3)) a_nil)))) (by decide)))) r_nil)) (d_one (d_call ok_is_endless (hr.mono (by decide : 1 ≤ 3)) rfl mg_is_endless kp_is_endless bd_is_endless (a_cons (d_ix ix_D (d_r (d_var (pv 2))) (d_r (d_un un_negD (d_r d_int))) (fun _ _ => rfl)) a_nil)))))))))

theorem sc_check_ladder : FnScope ["value"] ["value"] (defScope (top 31)) := ⟨rfl, rfl, rfl, by decide +kernel, rfl, by decide +kernel, by decide +kernel⟩
theorem cal_check_ladder {P : Program} {w : World} {K : PySem.W.Frag} {mg : Str → Option Value} {base : Heap} (g : Glob K mg) (F : ∃ f fd, FnP K "check_ladder" (top 31) f fd ∧ mg "check_ladder" = some (.ref f)) (c_is_ladder : CalP P w K mg base "is_ladder" 4 1 ["value"] F_is_ladder) : CalP P w K mg base "check_ladder" 5 1 ["value"] F_check_ladder := by
  obtain ⟨f, fd, F, hm⟩ := F
  obtain ⟨f_is_ladder, fd_is_ladder, ok_is_ladder, mg_is_ladder, kp_is_ladder, bd_is_ladder⟩ := c_is_ladder
  refine ⟨f, fd, ?_, hm, F.kp, F.bindsN fun _ _ _ _ _ _ us hl => match us, hl with | [_], _ => rfl⟩
  have sc := sc_check_ladder
  refine fn_P (toFun F) sc rfl fun cdv A outer s H E hr => ?_
  have hu := units64 hr
  have hu5 := units65 hr
  have hu1 := units1 hr
  exact (s_one (s_if (c_not (c_val (d_call ok_is_ladder (hr.mono (by decide : 4 ≤ 4)) rfl mg_is_ladder kp_is_ladder bd_is_ladder (a_cons (d_var (pv 0)) a_nil)))) (s_one s_never) s_nil))

theorem sc_check_holder : FnScope ["ladder", "holder"] ["ladder", "holder"] (defScope (top 32)) := ⟨rfl, rfl, rfl, by decide +kernel, rfl, by decide +kernel, by decide +kernel⟩
theorem cal_check_holder {P : Program} {w : World} {K : PySem.W.Frag} {mg : Str → Option Value} {base : Heap} (g : Glob K mg) (F : ∃ f fd, FnP K "check_holder" (top 32) f fd ∧ mg "check_holder" = some (.ref f)) (c_is_between : CalP P w K mg base "is_between" 1 3 ["value", "low", "high"] F_is_between) : CalP P w K mg base "check_holder" 2 2 ["ladder", "holder"] F_check_holder := by
  obtain ⟨f, fd, F, hm⟩ := F
  obtain ⟨f_is_between, fd_is_between, ok_is_between, mg_is_between, kp_is_between, bd_is_between⟩ := c_is_between
  refine ⟨f, fd, ?_, hm, F.kp, F.bindsN fun _ _ _ _ _ _ us hl => match us, hl with | [_, _], _ => rfl⟩
  have sc := sc_check_holder
  refine fn_P (toFun F) sc rfl fun cdv A outer s H E hr => ?_
  have hu := units64 hr
  have hu5 := units65 hr
  have hu1 := units1 hr
  exact (s_one (s_if (c_not (c_val (d_call ok_is_between (hr.mono (by decide : 1 ≤ 1)) rfl mg_is_between kp_is_between bd_is_between (a_cons (d_var (pv 1)) (a_cons d_int (a_cons (d_bin op_subD (d_r (d_ix ix_D (d_r (d_var (pv 0))) (d_r d_int) (fun _ _ => rfl))) (d_r d_int)) a_nil)))))) (s_one s_never) s_nil))

theorem sc_is_amount : FnScope ["value"] ["value"] (defScope (top 33)) := ⟨rfl, rfl, rfl, by decide +kernel, rfl, by decide +kernel, by decide +kernel⟩
theorem cal_is_amount {P : Program} {w : World} {K : PySem.W.Frag} {mg : Str → Option Value} {base : Heap} (g : Glob K mg) (F : ∃ f fd, FnP K "is_amount" (top 33) f fd ∧ mg "is_amount" = some (.ref f)) (gMOST : HasMost mg) (c_is_between : CalP P w K mg base "is_between" 1 3 ["value", "low", "high"] F_is_between) (c_divisor : CalP P w K mg base "divisor" 1 2 ["one", "other"] F_divisor) : CalP P w K mg base "is_amount" 2 1 ["value"] F_is_amount := by
  obtain ⟨f, fd, F, hm⟩ := F
  obtain ⟨f_is_between, fd_is_between, ok_is_between, mg_is_between, kp_is_between, bd_is_between⟩ := c_is_between
  obtain ⟨f_divisor, fd_divisor, ok_divisor, mg_divisor, kp_divisor, bd_divisor⟩ := c_divisor
  refine ⟨f, fd, ?_, hm, F.kp, F.bindsN fun _ _ _ _ _ _ us hl => match us, hl with | [_], _ => rfl⟩
  have sc := sc_is_amount
  refine fn_P (toFun F) sc rfl fun cdv A outer s H E hr => ?_
  have hu := units64 hr
  have hu5 := units65 hr
  have hu1 := units1 hr
  exact (s_cons (s_if (PW.pt (c_or (c_not (c_val (d_isi rfl g.isinstance rfl g.tuple_ (by decide +kernel) (d_r (d_var (pv 0)))))) (c_or (c_cmp (op_neQ hu) (d_r (d_callB cb_len rfl g.len_ (by decide +kernel) (r_cons (d_r (d_var (pv 0))) r_nil))) (d_r d_int) (nomark _)) (c_or1 (c_not (c_val (d_call ok_is_between (hr.mono (by decide : 1 ≤ 1)) rfl mg_is_between kp_is_between bd_is_between (a_cons (d_ix ix_D (d_r (d_var (pv 0))) (d_r d_int) (fun _ _ => rfl)) (a_cons d_int (a_cons d_int a_nil)))))))))) (s_one (s_ret d_bl)) s_nil)
    (s_one (s_ret (d_and (d_call ok_is_between (hr.mono (by decide : 1 ≤ 1)) rfl mg_is_between kp_is_between bd_is_between (a_cons (d_ix ix_D (d_r (d_var (pv 0))) (d_r d_int) (fun _ _ => rfl)) (a_cons d_int (a_cons (d_bin op_mulD (d_r (d_gint rfl gMOST)) (d_r (d_ix ix_D (d_r (d_var (pv 0))) (d_r d_int) (fun _ _ => rfl)))) a_nil)))) (d_one (d_cmp (op_eqQ hu) (d_r (d_call ok_divisor (hr.mono (by decide : 1 ≤ 1)) rfl mg_divisor kp_divisor bd_divisor (a_cons (d_ix ix_D (d_r (d_var (pv 0))) (d_r d_int) (fun _ _ => rfl)) (a_cons (d_ix ix_D (d_r (d_var (pv 0))) (d_r d_int) (fun _ _ => rfl)) a_nil)))) (d_r d_int) (nomark _)))))))

theorem sc_check_amount : FnScope ["value"] ["value"] (defScope (top 34)) := ⟨rfl, rfl, rfl, by decide +kernel, rfl, by decide +kernel, by decide +kernel⟩
theorem cal_check_amount {P : Program} {w : World} {K : PySem.W.Frag} {mg : Str → Option Value} {base : Heap} (g : Glob K mg) (F : ∃ f fd, FnP K "check_amount" (top 34) f fd ∧ mg "check_amount" = some (.ref f)) (c_is_amount : CalP P w K mg base "is_amount" 2 1 ["value"] F_is_amount) : CalP P w K mg base "check_amount" 3 1 ["value"] F_check_amount := by
  obtain ⟨f, fd, F, hm⟩ := F
  obtain ⟨f_is_amount, fd_is_amount, ok_is_amount, mg_is_amount, kp_is_amount, bd_is_amount⟩ := c_is_amount
  refine ⟨f, fd, ?_, hm, F.kp, F.bindsN fun _ _ _ _ _ _ us hl => match us, hl with | [_], _ => rfl⟩
  have sc := sc_check_amount
  refine fn_P (toFun F) sc rfl fun cdv A outer s H E hr => ?_
  have hu := units64 hr
  have hu5 := units65 hr
  have hu1 := units1 hr
  exact (s_one (s_if (c_not (c_val (d_call ok_is_amount (hr.mono (by decide : 2 ≤ 2)) rfl mg_is_amount kp_is_amount bd_is_amount (a_cons (d_var (pv 0)) a_nil)))) (s_one s_never) s_nil))

theorem sc_reached : FnScope ["ladder", "number", "rung"] ["ladder"] (defScope (top 35)) := ⟨rfl, rfl, rfl, by decide +kernel, rfl, by decide +kernel, by decide +kernel⟩
theorem cal_reached {P : Program} {w : World} {K : PySem.W.Frag} {mg : Str → Option Value} {base : Heap} (g : Glob K mg) (F : ∃ f fd, FnP K "reached" (top 35) f fd ∧ mg "reached" = some (.ref f)) (c_check_ladder : CalP P w K mg base "check_ladder" 5 1 ["value"] F_check_ladder) (c_is_endless : CalP P w K mg base "is_endless" 1 1 ["rung"] F_is_endless) : CalP P w K mg base "reached" 6 1 ["ladder"] F_reached := by
  obtain ⟨f, fd, F, hm⟩ := F
  obtain ⟨f_check_ladder, fd_check_ladder, ok_check_ladder, mg_check_ladder, kp_check_ladder, bd_check_ladder⟩ := c_check_ladder
  obtain ⟨f_is_endless, fd_is_endless, ok_is_endless, mg_is_endless, kp_is_endless, bd_is_endless⟩ := c_is_endless
  refine ⟨f, fd, ?_, hm, F.kp, F.bindsN fun _ _ _ _ _ _ us hl => match us, hl with | [_], _ => rfl⟩
  have sc := sc_reached
  refine fn_P (toFun F) sc rfl fun cdv A outer s H E hr => ?_
  have hu := units64 hr
  have hu5 := units65 hr
  have hu1 := units1 hr
  exact (s_cons (s_expr (d_call ok_check_ladder (hr.mono (by decide : 5 ≤ 5)) rfl mg_check_ladder kp_check_ladder bd_check_ladder (a_cons (d_var (pv 0)) a_nil)))
    (s_one (s_ret (d_bin op_addD (d_r (d_ix ix_D (d_r (d_frz (l_comp (own := [("number", 1), ("rung", 2)]) rfl sc.nd (i_enum rfl g.enumerate_ (a_cons (d_ix ix_D (d_r (d_var (pv 0))) (d_r d_int) (fun _ _ => rfl)) a_nil)) (blkOk_by (own := [("number", 1), ("rung", 2)]) (N := ["ladder", "number", "rung"]) (sc := defScope (top 35)) (by decide +kernel)) (fun _ _ _ _ _ => (g_tup rfl (gs_cons (g_name (pg_name (i := 1) sc.nd rfl (Or.inl rfl))) (gs_cons (g_name (pg_name (i := 2) sc.nd rfl (Or.inl rfl))) gs_nil)))) (fun _ _ _ _ _ => (t_one (c_val (d_call ok_is_endless (hr.mono (by decide : 1 ≤ 5)) rfl mg_is_endless kp_is_endless bd_is_endless (a_cons (d_var (pv 2)) a_nil))))) (fun _ _ _ _ _ => (d_var (pv 1))) (by decide)))) (d_r d_int) (fun _ _ => rfl))) (d_r d_int)))))

theorem sc_needed_for : FnScope ["ladder", "number", "found", "rung", "pair"] ["ladder", "number"] (defScope (top 36)) := ⟨rfl, rfl, rfl, by decide +kernel, rfl, by decide +kernel, by decide +kernel⟩
theorem cal_needed_for {P : Program} {w : World} {K : PySem.W.Frag} {mg : Str → Option Value} {base : Heap} (g : Glob K mg) (F : ∃ f fd, FnP K "needed_for" (top 36) f fd ∧ mg "needed_for" = some (.ref f)) (c_check_ladder : CalP P w K mg base "check_ladder" 5 1 ["value"] F_check_ladder) (c_is_between : CalP P w K mg base "is_between" 1 3 ["value", "low", "high"] F_is_between) (c_is_endless : CalP P w K mg base "is_endless" 1 1 ["rung"] F_is_endless) : CalP P w K mg base "needed_for" 6 2 ["ladder", "number"] F_needed_for := by
  obtain ⟨f, fd, F, hm⟩ := F
  obtain ⟨f_check_ladder, fd_check_ladder, ok_check_ladder, mg_check_ladder, kp_check_ladder, bd_check_ladder⟩ := c_check_ladder
  obtain ⟨f_is_between, fd_is_between, ok_is_between, mg_is_between, kp_is_between, bd_is_between⟩ := c_is_between
  obtain ⟨f_is_endless, fd_is_endless, ok_is_endless, mg_is_endless, kp_is_endless, bd_is_endless⟩ := c_is_endless
  refine ⟨f, fd, ?_, hm, F.kp, F.bindsN fun _ _ _ _ _ _ us hl => match us, hl with | [_, _], _ => rfl⟩
  have sc := sc_needed_for
  refine fn_P (toFun F) sc rfl fun cdv A outer s H E hr => ?_
  have hu := units64 hr
  have hu5 := units65 hr
  have hu1 := units1 hr
  exact (s_cons (s_expr (d_call ok_check_ladder (hr.mono (by decide : 5 ≤ 5)) rfl mg_check_ladder kp_check_ladder bd_check_ladder (a_cons (d_var (pv 0)) a_nil)))
    (s_cons (s_if (c_not (c_val (d_call ok_is_between (hr.mono (by decide : 1 ≤ 5)) rfl mg_is_between kp_is_between bd_is_between (a_cons (d_var (pv 1)) (a_cons d_int (a_cons (d_bin op_subD (d_r (d_callB cb_len rfl g.len_ (by decide +kernel) (r_cons (d_r (d_ix ix_D (d_r (d_var (pv 0))) (d_r d_int) (fun _ _ => rfl))) r_nil))) (d_r d_int)) a_nil)))))) (s_one s_never) s_nil)
    (s_cons (s_asg (ps_set (i := 2) sc.nd rfl (Or.inl rfl) d_int))
    (s_cons (s_for PassesOwn.never rfl (i_seq (d_slice (d_r (d_ix ix_D (d_r (d_var (pv 0))) (d_r d_int) (fun _ _ => rfl))) o_none (o_some (d_bin op_addD (d_r (d_var (pv 1))) (d_r d_int))))) (g_name (pg_name (i := 3) sc.nd rfl (Or.inl rfl))) (s_cons (s_if (c_val (d_call ok_is_endless (hr.mono (by decide : 1 ≤ 5)) rfl mg_is_endless kp_is_endless bd_is_endless (a_cons (d_var (pv 3)) a_nil))) (s_one (s_ret d_non)) s_nil)
    (s_one (s_asg (ps_set (i := 2) sc.nd rfl (Or.inl rfl) (d_bin op_addD (d_r (d_var (pv 2))) (d_r (d_callB (cb_sum rfl) rfl g.sum_ (by decide +kernel) (r_cons (d_r (d_frz (l_comp (own := [("pair", 4)]) rfl sc.nd (i_seq (d_ix ix_D (d_r (d_var (pv 3))) (d_r (d_un un_negD (d_r d_int))) (fun _ _ => rfl))) (blkOk_by (own := [("pair", 4)]) (N := ["ladder", "number", "found", "rung", "pair"]) (sc := defScope (top 36)) (by decide +kernel)) (fun _ _ _ _ _ => (g_name (pg_name (i := 4) sc.nd rfl (Or.inl rfl)))) (fun _ _ _ _ _ => t_yes) (fun _ _ _ _ _ => (d_ix ix_D (d_r (d_var (pv 4))) (d_r d_int) (fun _ _ => rfl))) (by decide)))) r_nil)))))))))
    (s_one (s_ret (d_var (pv 2))))))))

theorem sc_fixed_pieces : FnScope ["holders", "sums", "whole", "rates", "holder", "one"] ["holders", "sums"] (defScope (top 38)) := ⟨rfl, rfl, rfl, by decide +kernel, rfl, by decide +kernel, by decide +kernel⟩
theorem cal_fixed_pieces {P : Program} {w : World} {K : PySem.W.Frag} {mg : Str → Option Value} {base : Heap} (g : Glob K mg) (F : ∃ f fd, FnP K "fixed_pieces" (top 38) f fd ∧ mg "fixed_pieces" = some (.ref f)) (gZERO : HasZero K mg) (c_fraction : CalP P w K mg base "fraction" 2 2 ["top", "bottom"] F_fraction) : CalP P w K mg base "fixed_pieces" 3 2 ["holders", "sums"] F_fixed_pieces := by
  obtain ⟨f, fd, F, hm⟩ := F
  obtain ⟨f_fraction, fd_fraction, ok_fraction, mg_fraction, kp_fraction, bd_fraction⟩ := c_fraction
  refine ⟨f, fd, ?_, hm, F.kp, F.bindsN fun _ _ _ _ _ _ us hl => match us, hl with | [_, _], _ => rfl⟩
  have sc := sc_fixed_pieces
  refine fn_P (toFun F) sc rfl fun cdv A outer s H E hr => ?_
  have hu := units64 hr
  have hu5 := units65 hr
  have hu1 := units1 hr
  exact (s_cons (s_asg (ps_set (i := 2) sc.nd rfl (Or.inl rfl) (d_callB (cb_sum rfl) rfl g.sum_ (by decide +kernel) (r_cons (d_r (d_frz (l_comp (own := [("holder", 4), ("one", 5)]) rfl sc.nd (i_seq (d_var (pv 1))) (blkOk_by (own := [("holder", 4), ("one", 5)]) (N := ["holders", "sums", "whole", "rates", "holder", "one"]) (sc := defScope (top 38)) (by decide +kernel)) (fun _ _ _ _ _ => (g_tup rfl (gs_cons (g_name (pg_name (i := 4) sc.nd rfl (Or.inl rfl))) (gs_cons (g_name (pg_name (i := 5) sc.nd rfl (Or.inl rfl))) gs_nil)))) (fun _ _ _ _ _ => t_yes) (fun _ _ _ _ _ => (d_var (pv 5))) (by decide)))) r_nil))))
    (s_cons (s_own (ps_set (i := 3) sc.nd rfl (Or.inl rfl) (l_bin op_mulL (d_r (d_frz (l_lst (a_cons (d_gtup (is := [0, 1]) rfl gZERO) a_nil)))) (d_r (d_var (pv 0))))))
    (s_cons (s_for PassesOwn.never rfl (i_seq (d_var (pv 1))) (g_tup rfl (gs_cons (g_name (pg_name (i := 4) sc.nd rfl (Or.inl rfl))) (gs_cons (g_name (pg_name (i := 5) sc.nd rfl (Or.inl rfl))) gs_nil))) (s_one (s_set (ps_asg (d_call ok_fraction (hr.mono (by decide : 2 ≤ 2)) rfl mg_fraction kp_fraction bd_fraction (a_cons (d_var (pv 5)) (a_cons (d_var (pv 2)) a_nil))) (pg_sub (pv 3) (d_var (pv 4)) set_list)))))
    (s_one (s_ret (d_frz (l_lst (a_cons (d_tup (a_cons (d_tup (a_cons (d_var (pv 2)) (a_cons d_int a_nil))) (a_cons (d_callTy ct_tuple rfl g.tuple_ (by decide +kernel) (r_cons (d_bor (pv 3)) r_nil)) a_nil))) a_nil))))))))

theorem sc_share_pieces : FnScope ["holders", "weights", "caps", "left", "active", "found", "whole", "rates", "length", "holder", "weight", "time", "cap", "pair"] ["holders", "weights", "caps"] (defScope (top 39)) := ⟨rfl, rfl, rfl, by decide +kernel, rfl, by decide +kernel, by decide +kernel⟩
theorem cal_share_pieces {P : Program} {w : World} {K : PySem.W.Frag} {mg : Str → Option Value} {base : Heap} (g : Glob K mg) (F : ∃ f fd, FnP K "share_pieces" (top 39) f fd ∧ mg "share_pieces" = some (.ref f)) (gZERO : HasZero K mg) (c_fraction : CalP P w K mg base "fraction" 2 2 ["top", "bottom"] F_fraction) (c_quotient : CalP P w K mg base "quotient" 3 2 ["one", "other"] F_quotient) (c_lesser : CalP P w K mg base "lesser" 2 2 ["one", "other"] F_lesser) (c_minus : CalP P w K mg base "minus" 4 2 ["one", "other"] F_minus) (c_product : CalP P w K mg base "product" 3 2 ["one", "other"] F_product) : CalP P w K mg base "share_pieces" 5 3 ["holders", "weights", "caps"] F_share_pieces := by
  obtain ⟨f, fd, F, hm⟩ := F
  obtain ⟨f_fraction, fd_fraction, ok_fraction, mg_fraction, kp_fraction, bd_fraction⟩ := c_fraction
  obtain ⟨f_quotient, fd_quotient, ok_quotient, mg_quotient, kp_quotient, bd_quotient⟩ := c_quotient
  obtain ⟨f_lesser, fd_lesser, ok_lesser, mg_lesser, kp_lesser, bd_lesser⟩ := c_lesser
  obtain ⟨f_minus, fd_minus, ok_minus, mg_minus, kp_minus, bd_minus⟩ := c_minus
  obtain ⟨f_product, fd_product, ok_product, mg_product, kp_product, bd_product⟩ := c_product
  refine ⟨f, fd, ?_, hm, F.kp, F.bindsN fun _ _ _ _ _ _ us hl => match us, hl with | [_, _, _], _ => rfl⟩
  have sc := sc_share_pieces
  refine fn_P (toFun F) sc rfl fun cdv A outer s H E hr => ?_
  have hu := units64 hr
  have hu5 := units65 hr
  have hu1 := units1 hr
  exact (s_cons (s_dk (ps_set (i := 3) sc.nd rfl (Or.inr rfl) (k_dict rfl rfl g.dict_ (by decide +kernel) (d_frz (l_comp (own := [("holder", 9), ("cap", 12)]) rfl sc.nd (i_seq (d_var (pv 2))) (blkOk_by (own := [("holder", 9), ("cap", 12)]) (N := ["holders", "weights", "caps", "left", "active", "found", "whole", "rates", "length", "holder", "weight", "time", "cap", "pair"]) (sc := defScope (top 39)) (by decide +kernel)) (fun _ _ _ _ _ => (g_tup rfl (gs_cons (g_name (pg_name (i := 9) sc.nd rfl (Or.inl rfl))) (gs_cons (g_name (pg_name (i := 12) sc.nd rfl (Or.inl rfl))) gs_nil)))) (fun _ _ _ _ _ => t_yes) (fun _ _ _ _ _ => (d_tup (a_cons (d_var (pv 9)) (a_cons (d_tup (a_cons (d_var (pv 12)) (a_cons d_int a_nil))) a_nil)))) (by decide))))))
    (s_cons (s_par2 (ps_par (i := 4) (j := 5) rfl sc.nd rfl rfl (by decide) rfl rfl (m_d (d_frz (l_callTy ct_list rfl g.list_ (by decide +kernel) (r_cons (d_r (d_var (pv 1))) r_nil))) (m_l (l_lst a_nil) m_nil)) rfl))
    (s_cons (s_while PassesOwn.never (c_cmp (op_neQ hu) (d_r (d_var (pv 4))) (d_r (d_frz (l_lst a_nil))) (nomark _)) (s_cons (s_asg (ps_set (i := 6) sc.nd rfl (Or.inl rfl) (d_callB (cb_sum rfl) rfl g.sum_ (by decide +kernel) (r_cons (d_r (d_frz (l_comp (own := [("holder", 9), ("weight", 10)]) rfl sc.nd (i_seq (d_var (pv 4))) (blkOk_by (own := [("holder", 9), ("weight", 10)]) (N := ["holders", "weights", "caps", "left", "active", "found", "whole", "rates", "length", "holder", "weight", "time", "cap", "pair"]) (sc := defScope (top 39)) (by decide +kernel)) (fun _ _ _ _ _ => (g_tup rfl (gs_cons (g_name (pg_name (i := 9) sc.nd rfl (Or.inl rfl))) (gs_cons (g_name (pg_name (i := 10) sc.nd rfl (Or.inl rfl))) gs_nil)))) (fun _ _ _ _ _ => t_yes) (fun _ _ _ _ _ => (d_var (pv 10))) (by decide)))) r_nil))))
    (s_cons (s_own (ps_set (i := 7) sc.nd rfl (Or.inr rfl) (l_bin op_mulL (d_r (d_frz (l_lst (a_cons (d_gtup (is := [0, 1]) rfl gZERO) a_nil)))) (d_r (d_var (pv 0))))))
    (s_cons (s_asg (ps_set (i := 8) sc.nd rfl (Or.inr rfl) d_non))
    (s_cons (s_for PassesOwn.never rfl (i_seq (d_var (pv 4))) (g_tup rfl (gs_cons (g_name (pg_name (i := 9) sc.nd rfl (Or.inl rfl))) (gs_cons (g_name (pg_name (i := 10) sc.nd rfl (Or.inl rfl))) gs_nil))) (s_cons (s_set (ps_asg (d_call ok_fraction (hr.mono (by decide : 2 ≤ 4)) rfl mg_fraction kp_fraction bd_fraction (a_cons (d_var (pv 10)) (a_cons (d_var (pv 6)) a_nil))) (pg_sub (pv 7) (d_var (pv 9)) set_list)))
    (s_one (s_if (c_din hu1 (d_var (pv 9)) (pv 3)) (s_cons (s_asg (ps_set (i := 11) sc.nd rfl (Or.inl rfl) (d_call ok_quotient (hr.mono (by decide : 3 ≤ 4)) rfl mg_quotient kp_quotient bd_quotient (a_cons (d_dget hu1 (pv 3) (d_var (pv 9)) (fun _ _ => rfl)) (a_cons (d_ix ix_D (d_bor (pv 7)) (d_r (d_var (pv 9))) (fun _ _ => rfl)) a_nil)))))
    (s_one (s_asg (ps_set (i := 8) sc.nd rfl (Or.inr rfl) (d_if (c_cmp op_isQ (d_r (d_var (pv 8))) (d_r d_non) (nomark _)) (d_var (pv 11)) (d_call ok_lesser (hr.mono (by decide : 2 ≤ 4)) rfl mg_lesser kp_lesser bd_lesser (a_cons (d_var (pv 8)) (a_cons (d_var (pv 11)) a_nil)))))))) s_nil))))
    (s_cons (s_app (ps_expr (pe_bm PySem.F.plainAttrs_list PySem.F.slot_list_append PySem.F.type_list_append mt_append (pv 5) (pa_cons (d_tup (a_cons (d_var (pv 8)) (a_cons (d_callTy ct_tuple rfl g.tuple_ (by decide +kernel) (r_cons (d_bor (pv 7)) r_nil)) a_nil))) pa_nil))))
    (s_cons (s_if (c_cmp op_isQ (d_r (d_var (pv 8))) (d_r d_non) (nomark _)) (s_one (s_frz 5 (s_ret (d_var (pv 5))))) s_nil)
    (s_cons (s_dk (ps_set (i := 3) sc.nd rfl (Or.inr rfl) (k_dict rfl rfl g.dict_ (by decide +kernel) (d_frz (l_lock 3 (l_comp (own := [("holder", 9)]) rfl sc.nd (i_dk (pv 3)) (blkOk_by (own := [("holder", 9)]) (N := ["holders", "weights", "caps", "left", "active", "found", "whole", "rates", "length", "holder", "weight", "time", "cap", "pair"]) (sc := defScope (top 39)) (by decide +kernel)) (fun _ _ _ _ _ => (g_name (pg_name (i := 9) sc.nd rfl (Or.inl rfl)))) (fun _ _ _ _ _ => t_yes) (fun _ _ _ _ _ => (d_tup (a_cons (d_var (pv 9)) (a_cons (d_call ok_minus (hr.mono (by decide : 4 ≤ 4)) rfl mg_minus kp_minus bd_minus (a_cons (d_dget hu1 (pv 3) (d_var (pv 9)) (fun _ _ => rfl)) (a_cons (d_call ok_product (hr.mono (by decide : 3 ≤ 4)) rfl mg_product kp_product bd_product (a_cons (d_var (pv 8)) (a_cons (d_ix ix_D (d_bor (pv 7)) (d_r (d_var (pv 9))) (fun _ _ => rfl)) a_nil))) a_nil))) a_nil)))) (by decide)))))))
    (s_cons (s_asg (as_frz (as_comp (by decide) (ps_setLc (own := [("pair", 13)]) (i := 4) rfl sc.nd rfl rfl (sw_true rfl rfl rfl (by decide +kernel)) (i_seq (d_var (pv 4))) (blkOk_by (own := [("pair", 13)]) (N := ["holders", "weights", "caps", "left", "active", "found", "whole", "rates", "length", "holder", "weight", "time", "cap", "pair"]) (sc := defScope (top 39)) (by decide +kernel)) (fun _ _ _ _ _ => (g_name (pg_name (i := 13) sc.nd rfl (Or.inl rfl)))) (fun _ _ _ _ _ => (t_one (PW.pt (c_or (c_dnin hu1 (d_ix ix_D (d_r (d_var (pv 13))) (d_r d_int) (fun _ _ => rfl)) (pv 3)) (c_or1 (c_cmp (op_neQ hu) (d_r (d_dget hu1 (pv 3) (d_ix ix_D (d_r (d_var (pv 13))) (d_r d_int) (fun _ _ => rfl)) (fun _ _ => rfl))) (d_r (d_gtup (is := [0, 1]) rfl gZERO)) (nomark _))))))) (fun _ _ _ _ _ => (d_var (pv 13)))))))
    (s_one (s_dk (ps_set (i := 3) sc.nd rfl (Or.inr rfl) (k_dict rfl rfl g.dict_ (by decide +kernel) (d_frz (l_lock 3 (l_comp (own := [("holder", 9)]) rfl sc.nd (i_dk (pv 3)) (blkOk_by (own := [("holder", 9)]) (N := ["holders", "weights", "caps", "left", "active", "found", "whole", "rates", "length", "holder", "weight", "time", "cap", "pair"]) (sc := defScope (top 39)) (by decide +kernel)) (fun _ _ _ _ _ => (g_name (pg_name (i := 9) sc.nd rfl (Or.inl rfl)))) (fun _ _ _ _ _ => (t_one (c_cmp (op_neQ hu) (d_r (d_dget hu1 (pv 3) (d_var (pv 9)) (fun _ _ => rfl))) (d_r (d_gtup (is := [0, 1]) rfl gZERO)) (nomark _)))) (fun _ _ _ _ _ => (d_tup (a_cons (d_var (pv 9)) (a_cons (d_dget hu1 (pv 3) (d_var (pv 9)) (fun _ _ => rfl)) a_nil)))) (by decide)))))))))))))))))
    (s_one (s_frz 5 (s_ret (d_var (pv 5))))))))

theorem sc_rung_pieces : FnScope ["holders", "rung"] ["holders", "rung"] (defScope (top 40)) := ⟨rfl, rfl, rfl, by decide +kernel, rfl, by decide +kernel, by decide +kernel⟩
theorem cal_rung_pieces {P : Program} {w : World} {K : PySem.W.Frag} {mg : Str → Option Value} {base : Heap} (g : Glob K mg) (F : ∃ f fd, FnP K "rung_pieces" (top 40) f fd ∧ mg "rung_pieces" = some (.ref f)) (c_share_pieces : CalP P w K mg base "share_pieces" 5 3 ["holders", "weights", "caps"] F_share_pieces) (c_fixed_pieces : CalP P w K mg base "fixed_pieces" 3 2 ["holders", "sums"] F_fixed_pieces) : CalP P w K mg base "rung_pieces" 6 2 ["holders", "rung"] F_rung_pieces := by
  obtain ⟨f, fd, F, hm⟩ := F
  obtain ⟨f_share_pieces, fd_share_pieces, ok_share_pieces, mg_share_pieces, kp_share_pieces, bd_share_pieces⟩ := c_share_pieces
  obtain ⟨f_fixed_pieces, fd_fixed_pieces, ok_fixed_pieces, mg_fixed_pieces, kp_fixed_pieces, bd_fixed_pieces⟩ := c_fixed_pieces
  refine ⟨f, fd, ?_, hm, F.kp, F.bindsN fun _ _ _ _ _ _ us hl => match us, hl with | [_, _], _ => rfl⟩
  have sc := sc_rung_pieces
  refine fn_P (toFun F) sc rfl fun cdv A outer s H E hr => ?_
  have hu := units64 hr
  have hu5 := units65 hr
  have hu1 := units1 hr
  exact (s_cons (s_if (c_cmp (op_eqQ hu) (d_r (d_ix ix_D (d_r (d_var (pv 1))) (d_r d_int) (fun _ _ => rfl))) (d_r d_str) (nomark _)) (s_one (s_ret (d_call ok_fixed_pieces (hr.mono (by decide : 3 ≤ 5)) rfl mg_fixed_pieces kp_fixed_pieces bd_fixed_pieces (a_cons (d_var (pv 0)) (a_cons (d_ix ix_D (d_r (d_var (pv 1))) (d_r d_int) (fun _ _ => rfl)) a_nil))))) s_nil)
    (s_one (s_ret (d_call ok_share_pieces (hr.mono (by decide : 5 ≤ 5)) rfl mg_share_pieces kp_share_pieces bd_share_pieces (a_cons (d_var (pv 0)) (a_cons (d_ix ix_D (d_r (d_var (pv 1))) (d_r d_int) (fun _ _ => rfl)) (a_cons (d_ix ix_D (d_r (d_var (pv 1))) (d_r d_int) (fun _ _ => rfl)) a_nil)))))))

theorem sc_pieces_of : FnScope ["ladder", "found", "number", "rung", "length", "rates"] ["ladder"] (defScope (top 41)) := ⟨rfl, rfl, rfl, by decide +kernel, rfl, by decide +kernel, by decide +kernel⟩
theorem cal_pieces_of {P : Program} {w : World} {K : PySem.W.Frag} {mg : Str → Option Value} {base : Heap} (g : Glob K mg) (F : ∃ f fd, FnP K "pieces_of" (top 41) f fd ∧ mg "pieces_of" = some (.ref f)) (c_is_endless : CalP P w K mg base "is_endless" 1 1 ["rung"] F_is_endless) (c_rung_pieces : CalP P w K mg base "rung_pieces" 6 2 ["holders", "rung"] F_rung_pieces) : CalP P w K mg base "pieces_of" 7 1 ["ladder"] F_pieces_of := by
  obtain ⟨f, fd, F, hm⟩ := F
  obtain ⟨f_is_endless, fd_is_endless, ok_is_endless, mg_is_endless, kp_is_endless, bd_is_endless⟩ := c_is_endless
  obtain ⟨f_rung_pieces, fd_rung_pieces, ok_rung_pieces, mg_rung_pieces, kp_rung_pieces, bd_rung_pieces⟩ := c_rung_pieces
  refine ⟨f, fd, ?_, hm, F.kp, F.bindsN fun _ _ _ _ _ _ us hl => match us, hl with | [_], _ => rfl⟩
  have sc := sc_pieces_of
  refine fn_P (toFun F) sc rfl fun cdv A outer s H E hr => ?_
  have hu := units64 hr
  have hu5 := units65 hr
  have hu1 := units1 hr
  exact (s_cons (s_own (ps_set (i := 1) sc.nd rfl (Or.inl rfl) (l_lst a_nil)))
    (s_cons (s_for PassesOwn.never rfl (i_enum rfl g.enumerate_ (a_cons (d_ix ix_D (d_r (d_var (pv 0))) (d_r d_int) (fun _ _ => rfl)) a_nil)) (g_tup rfl (gs_cons (g_name (pg_name (i := 2) sc.nd rfl (Or.inr rfl))) (gs_cons (g_name (pg_name (i := 3) sc.nd rfl (Or.inl rfl))) gs_nil))) (s_cons (s_ext (ps_expr (pe_bm PySem.F.plainAttrs_list PySem.F.slot_list_extend PySem.F.type_list_extend mt_extend (pv 1) (pa_cons (l_comp (own := [("length", 4), ("rates", 5)]) rfl sc.nd (i_seq (d_call ok_rung_pieces (hr.mono (by decide : 6 ≤ 6)) rfl mg_rung_pieces kp_rung_pieces bd_rung_pieces (a_cons (d_ix ix_D (d_r (d_var (pv 0))) (d_r d_int) (fun _ _ => rfl)) (a_cons (d_var (pv 3)) a_nil)))) (blkOk_by (own := [("length", 4), ("rates", 5)]) (N := ["ladder", "found", "number", "rung", "length", "rates"]) (sc := defScope (top 41)) (by decide +kernel)) (fun _ _ _ _ _ => (g_tup rfl (gs_cons (g_name (pg_name (i := 4) sc.nd rfl (Or.inl rfl))) (gs_cons (g_name (pg_name (i := 5) sc.nd rfl (Or.inl rfl))) gs_nil)))) (fun _ _ _ _ _ => t_yes) (fun _ _ _ _ _ => (d_tup (a_cons (d_var (pv 2)) (a_cons (d_var (pv 4)) (a_cons (d_var (pv 5)) a_nil))))) (by decide)) pa_nil))))
    (s_one (s_if (c_val (d_call ok_is_endless (hr.mono (by decide : 1 ≤ 6)) rfl mg_is_endless kp_is_endless bd_is_endless (a_cons (d_var (pv 3)) a_nil))) (s_one (s_frz 1 (s_ret (d_var (pv 1))))) s_nil))))
    (s_one (s_frz 1 (s_ret (d_var (pv 1)))))))

theorem sc_found_bends : FnScope ["ladder", "holder", "found", "amount", "paid", "number", "length", "rates"] ["ladder", "holder"] (defScope (top 42)) := ⟨rfl, rfl, rfl, by decide +kernel, rfl, by decide +kernel, by decide +kernel⟩
theorem cal_found_bends {P : Program} {w : World} {K : PySem.W.Frag} {mg : Str → Option Value} {base : Heap} (g : Glob K mg) (F : ∃ f fd, FnP K "found_bends" (top 42) f fd ∧ mg "found_bends" = some (.ref f)) (gZERO : HasZero K mg) (c_pieces_of : CalP P w K mg base "pieces_of" 7 1 ["ladder"] F_pieces_of) (c_plus : CalP P w K mg base "plus" 3 2 ["one", "other"] F_plus) (c_product : CalP P w K mg base "product" 3 2 ["one", "other"] F_product) : CalP P w K mg base "found_bends" 8 2 ["ladder", "holder"] F_found_bends := by
  obtain ⟨f, fd, F, hm⟩ := F
  obtain ⟨f_pieces_of, fd_pieces_of, ok_pieces_of, mg_pieces_of, kp_pieces_of, bd_pieces_of⟩ := c_pieces_of
  obtain ⟨f_plus, fd_plus, ok_plus, mg_plus, kp_plus, bd_plus⟩ := c_plus
  obtain ⟨f_product, fd_product, ok_product, mg_product, kp_product, bd_product⟩ := c_product
  refine ⟨f, fd, ?_, hm, F.kp, F.bindsN fun _ _ _ _ _ _ us hl => match us, hl with | [_, _], _ => rfl⟩
  have sc := sc_found_bends
  refine fn_P (toFun F) sc rfl fun cdv A outer s H E hr => ?_
  have hu := units64 hr
  have hu5 := units65 hr
  have hu1 := units1 hr
  exact (s_cons (s_par3 (ps_par3 (i := 2) (j := 3) (l := 4) rfl sc.nd rfl rfl rfl (by decide) (by decide) (by decide) rfl rfl rfl (m_l (l_lst a_nil) (m_d (d_gtup (is := [0, 1]) rfl gZERO) (m_d (d_gtup (is := [0, 1]) rfl gZERO) m_nil))) rfl))
    (s_cons (s_for PassesOwn.never rfl (i_seq (d_call ok_pieces_of (hr.mono (by decide : 7 ≤ 7)) rfl mg_pieces_of kp_pieces_of bd_pieces_of (a_cons (d_var (pv 0)) a_nil))) (g_tup rfl (gs_cons (g_name (pg_name (i := 5) sc.nd rfl (Or.inl rfl))) (gs_cons (g_name (pg_name (i := 6) sc.nd rfl (Or.inl rfl))) (gs_cons (g_name (pg_name (i := 7) sc.nd rfl (Or.inl rfl))) gs_nil)))) (s_cons (s_if (PW.pt (c_or (c_cmp (op_eqQ hu) (d_bor (pv 2)) (d_r (d_frz (l_lst a_nil))) (nomark _)) (c_or1 (c_cmp (op_neQ hu) (d_r (d_ix ix_D (d_r (d_ix ix_D (d_bor (pv 2)) (d_r (d_un un_negD (d_r d_int))) (fun _ _ => rfl))) (d_r d_int) (fun _ _ => rfl))) (d_r (d_ix ix_D (d_r (d_var (pv 7))) (d_r (d_var (pv 1))) (fun _ _ => rfl))) (nomark _))))) (s_one (s_app (ps_expr (pe_bm PySem.F.plainAttrs_list PySem.F.slot_list_append PySem.F.type_list_append mt_append (pv 2) (pa_cons (d_tup (a_cons (d_var (pv 3)) (a_cons (d_var (pv 4)) (a_cons (d_ix ix_D (d_r (d_var (pv 7))) (d_r (d_var (pv 1))) (fun _ _ => rfl)) a_nil)))) pa_nil))))) s_nil)
    (s_one (s_if (c_cmp op_isNotQ (d_r (d_var (pv 6))) (d_r d_non) (nomark _)) (s_cons (s_asg (ps_set (i := 3) sc.nd rfl (Or.inl rfl) (d_call ok_plus (hr.mono (by decide : 3 ≤ 7)) rfl mg_plus kp_plus bd_plus (a_cons (d_var (pv 3)) (a_cons (d_var (pv 6)) a_nil)))))
    (s_one (s_asg (ps_set (i := 4) sc.nd rfl (Or.inl rfl) (d_call ok_plus (hr.mono (by decide : 3 ≤ 7)) rfl mg_plus kp_plus bd_plus (a_cons (d_var (pv 4)) (a_cons (d_call ok_product (hr.mono (by decide : 3 ≤ 7)) rfl mg_product kp_product bd_product (a_cons (d_var (pv 6)) (a_cons (d_ix ix_D (d_r (d_var (pv 7))) (d_r (d_var (pv 1))) (fun _ _ => rfl)) a_nil))) a_nil))))))) s_nil))))
    (s_one (s_frz 2 (s_ret (d_var (pv 2)))))))

theorem sc_payment_at : FnScope ["rows", "amount", "some", "start", "paid", "rate", "row"] ["rows", "amount"] (defScope (top 43)) := ⟨rfl, rfl, rfl, by decide +kernel, rfl, by decide +kernel, by decide +kernel⟩
theorem cal_payment_at {P : Program} {w : World} {K : PySem.W.Frag} {mg : Str → Option Value} {base : Heap} (g : Glob K mg) (F : ∃ f fd, FnP K "payment_at" (top 43) f fd ∧ mg "payment_at" = some (.ref f)) (c_plus : CalP P w K mg base "plus" 3 2 ["one", "other"] F_plus) (c_product : CalP P w K mg base "product" 3 2 ["one", "other"] F_product) (c_minus : CalP P w K mg base "minus" 4 2 ["one", "other"] F_minus) (c_is_less : CalP P w K mg base "is_less" 1 2 ["one", "other"] F_is_less) : CalP P w K mg base "payment_at" 5 2 ["rows", "amount"] F_payment_at := by
  obtain ⟨f, fd, F, hm⟩ := F
  obtain ⟨f_plus, fd_plus, ok_plus, mg_plus, kp_plus, bd_plus⟩ := c_plus
  obtain ⟨f_product, fd_product, ok_product, mg_product, kp_product, bd_product⟩ := c_product
  obtain ⟨f_minus, fd_minus, ok_minus, mg_minus, kp_minus, bd_minus⟩ := c_minus
  obtain ⟨f_is_less, fd_is_less, ok_is_less, mg_is_less, kp_is_less, bd_is_less⟩ := c_is_less
  refine ⟨f, fd, ?_, hm, F.kp, F.bindsN fun _ _ _ _ _ _ us hl => match us, hl with | [_, _], _ => rfl⟩
  have sc := sc_payment_at
  refine fn_P (toFun F) sc rfl fun cdv A outer s H E hr => ?_
  have hu := units64 hr
  have hu5 := units65 hr
  have hu1 := units1 hr
  exact (s_cons (s_asg (as_frz (as_comp (by decide) (ps_setLc (own := [("row", 6)]) (i := 2) rfl sc.nd rfl rfl (sw_true rfl rfl rfl (by decide +kernel)) (i_seq (d_var (pv 0))) (blkOk_by (own := [("row", 6)]) (N := ["rows", "amount", "some", "start", "paid", "rate", "row"]) (sc := defScope (top 43)) (by decide +kernel)) (fun _ _ _ _ _ => (g_name (pg_name (i := 6) sc.nd rfl (Or.inl rfl)))) (fun _ _ _ _ _ => (t_one (c_not (c_val (d_call ok_is_less (hr.mono (by decide : 1 ≤ 4)) rfl mg_is_less kp_is_less bd_is_less (a_cons (d_var (pv 1)) (a_cons (d_ix ix_D (d_r (d_var (pv 6))) (d_r d_int) (fun _ _ => rfl)) a_nil))))))) (fun _ _ _ _ _ => (d_var (pv 6)))))))
    (s_cons (s_asgG (ps_asg (d_ix ix_D (d_r (d_var (pv 2))) (d_r (d_un un_negD (d_r d_int))) (fun _ _ => rfl)) (g_tup rfl (gs_cons (g_name (pg_name (i := 3) sc.nd rfl (Or.inl rfl))) (gs_cons (g_name (pg_name (i := 4) sc.nd rfl (Or.inl rfl))) (gs_cons (g_name (pg_name (i := 5) sc.nd rfl (Or.inl rfl))) gs_nil))))))
    (s_one (s_ret (d_call ok_plus (hr.mono (by decide : 3 ≤ 4)) rfl mg_plus kp_plus bd_plus (a_cons (d_var (pv 4)) (a_cons (d_call ok_product (hr.mono (by decide : 3 ≤ 4)) rfl mg_product kp_product bd_product (a_cons (d_var (pv 5)) (a_cons (d_call ok_minus (hr.mono (by decide : 4 ≤ 4)) rfl mg_minus kp_minus bd_minus (a_cons (d_var (pv 1)) (a_cons (d_var (pv 3)) a_nil))) a_nil))) a_nil)))))))

theorem sc_all_payments : FnScope ["ladder", "amount", "holder"] ["ladder", "amount"] (defScope (top 44)) := ⟨rfl, rfl, rfl, by decide +kernel, rfl, by decide +kernel, by decide +kernel⟩
theorem cal_all_payments {P : Program} {w : World} {K : PySem.W.Frag} {mg : Str → Option Value} {base : Heap} (g : Glob K mg) (F : ∃ f fd, FnP K "all_payments" (top 44) f fd ∧ mg "all_payments" = some (.ref f)) (c_payment_at : CalP P w K mg base "payment_at" 5 2 ["rows", "amount"] F_payment_at) (c_found_bends : CalP P w K mg base "found_bends" 8 2 ["ladder", "holder"] F_found_bends) : CalP P w K mg base "all_payments" 9 2 ["ladder", "amount"] F_all_payments := by
  obtain ⟨f, fd, F, hm⟩ := F
  obtain ⟨f_payment_at, fd_payment_at, ok_payment_at, mg_payment_at, kp_payment_at, bd_payment_at⟩ := c_payment_at
  obtain ⟨f_found_bends, fd_found_bends, ok_found_bends, mg_found_bends, kp_found_bends, bd_found_bends⟩ := c_found_bends
  refine ⟨f, fd, ?_, hm, F.kp, F.bindsN fun _ _ _ _ _ _ us hl => match us, hl with | [_, _], _ => rfl⟩
  have sc := sc_all_payments
  refine fn_P (toFun F) sc rfl fun cdv A outer s H E hr => ?_
  have hu := units64 hr
  have hu5 := units65 hr
  have hu1 := units1 hr
  exact (s_one (s_ret (d_callTy ct_tuple rfl g.tuple_ (by decide +kernel) (r_cons (d_r (d_frz (l_comp (own := [("holder", 2)]) rfl sc.nd (i_rng rfl g.range_ (a_cons (d_ix ix_D (d_r (d_var (pv 0))) (d_r d_int) (fun _ _ => rfl)) a_nil)) (blkOk_by (own := [("holder", 2)]) (N := ["ladder", "amount", "holder"]) (sc := defScope (top 44)) (by decide +kernel)) (fun _ _ _ _ _ => (g_name (pg_name (i := 2) sc.nd rfl (Or.inl rfl)))) (fun _ _ _ _ _ => t_yes) (fun _ _ _ _ _ => (d_call ok_payment_at (hr.mono (by decide : 5 ≤ 8)) rfl mg_payment_at kp_payment_at bd_payment_at (a_cons (d_call ok_found_bends (hr.mono (by decide : 8 ≤ 8)) rfl mg_found_bends kp_found_bends bd_found_bends (a_cons (d_var (pv 0)) (a_cons (d_var (pv 2)) a_nil))) (a_cons (d_var (pv 1)) a_nil)))) (by decide)))) r_nil))))

theorem sc_pay : FnScope ["ladder", "amount"] ["ladder", "amount"] (defScope (top 46)) := ⟨rfl, rfl, rfl, by decide +kernel, rfl, by decide +kernel, by decide +kernel⟩
theorem cal_pay {P : Program} {w : World} {K : PySem.W.Frag} {mg : Str → Option Value} {base : Heap} (g : Glob K mg) (F : ∃ f fd, FnP K "pay" (top 46) f fd ∧ mg "pay" = some (.ref f)) (c_check_ladder : CalP P w K mg base "check_ladder" 5 1 ["value"] F_check_ladder) (c_check_amount : CalP P w K mg base "check_amount" 3 1 ["value"] F_check_amount) (c_all_payments : CalP P w K mg base "all_payments" 9 2 ["ladder", "amount"] F_all_payments) : CalP P w K mg base "pay" 10 2 ["ladder", "amount"] F_pay := by
  obtain ⟨f, fd, F, hm⟩ := F
  obtain ⟨f_check_ladder, fd_check_ladder, ok_check_ladder, mg_check_ladder, kp_check_ladder, bd_check_ladder⟩ := c_check_ladder
  obtain ⟨f_check_amount, fd_check_amount, ok_check_amount, mg_check_amount, kp_check_amount, bd_check_amount⟩ := c_check_amount
  obtain ⟨f_all_payments, fd_all_payments, ok_all_payments, mg_all_payments, kp_all_payments, bd_all_payments⟩ := c_all_payments
  refine ⟨f, fd, ?_, hm, F.kp, F.bindsN fun _ _ _ _ _ _ us hl => match us, hl with | [_, _], _ => rfl⟩
  have sc := sc_pay
  refine fn_P (toFun F) sc rfl fun cdv A outer s H E hr => ?_
  have hu := units64 hr
  have hu5 := units65 hr
  have hu1 := units1 hr
  exact (s_cons (s_expr (d_call ok_check_ladder (hr.mono (by decide : 5 ≤ 9)) rfl mg_check_ladder kp_check_ladder bd_check_ladder (a_cons (d_var (pv 0)) a_nil)))
    (s_cons (s_expr (d_call ok_check_amount (hr.mono (by decide : 3 ≤ 9)) rfl mg_check_amount kp_check_amount bd_check_amount (a_cons (d_var (pv 1)) a_nil)))
    (s_one (s_ret (d_call ok_all_payments (hr.mono (by decide : 9 ≤ 9)) rfl mg_all_payments kp_all_payments bd_all_payments (a_cons (d_var (pv 0)) (a_cons (d_var (pv 1)) a_nil)))))))

theorem sc_pay_rungs : FnScope ["ladder", "amount", "found", "left", "number", "length", "rates", "part", "holder", "rate", "rung", "row"] ["ladder", "amount"] (defScope (top 47)) := ⟨rfl, rfl, rfl, by decide +kernel, rfl, by decide +kernel, by decide +kernel⟩
theorem cal_pay_rungs {P : Program} {w : World} {K : PySem.W.Frag} {mg : Str → Option Value} {base : Heap} (g : Glob K mg) (F : ∃ f fd, FnP K "pay_rungs" (top 47) f fd ∧ mg "pay_rungs" = some (.ref f)) (gZERO : HasZero K mg) (c_check_ladder : CalP P w K mg base "check_ladder" 5 1 ["value"] F_check_ladder) (c_check_amount : CalP P w K mg base "check_amount" 3 1 ["value"] F_check_amount) (c_pieces_of : CalP P w K mg base "pieces_of" 7 1 ["ladder"] F_pieces_of) (c_minus : CalP P w K mg base "minus" 4 2 ["one", "other"] F_minus) (c_lesser : CalP P w K mg base "lesser" 2 2 ["one", "other"] F_lesser) (c_plus : CalP P w K mg base "plus" 3 2 ["one", "other"] F_plus) (c_product : CalP P w K mg base "product" 3 2 ["one", "other"] F_product) : CalP P w K mg base "pay_rungs" 8 2 ["ladder", "amount"] F_pay_rungs := by
  obtain ⟨f, fd, F, hm⟩ := F
  obtain ⟨f_check_ladder, fd_check_ladder, ok_check_ladder, mg_check_ladder, kp_check_ladder, bd_check_ladder⟩ := c_check_ladder
  obtain ⟨f_check_amount, fd_check_amount, ok_check_amount, mg_check_amount, kp_check_amount, bd_check_amount⟩ := c_check_amount
  obtain ⟨f_pieces_of, fd_pieces_of, ok_pieces_of, mg_pieces_of, kp_pieces_of, bd_pieces_of⟩ := c_pieces_of
  obtain ⟨f_minus, fd_minus, ok_minus, mg_minus, kp_minus, bd_minus⟩ := c_minus
  obtain ⟨f_lesser, fd_lesser, ok_lesser, mg_lesser, kp_lesser, bd_lesser⟩ := c_lesser
  obtain ⟨f_plus, fd_plus, ok_plus, mg_plus, kp_plus, bd_plus⟩ := c_plus
  obtain ⟨f_product, fd_product, ok_product, mg_product, kp_product, bd_product⟩ := c_product
  refine ⟨f, fd, ?_, hm, F.kp, F.bindsN fun _ _ _ _ _ _ us hl => match us, hl with | [_, _], _ => rfl⟩
  have sc := sc_pay_rungs
  refine fn_P (toFun F) sc rfl fun cdv A outer s H E hr => ?_
  have hu := units64 hr
  have hu5 := units65 hr
  have hu1 := units1 hr
  exact (s_cons (s_expr (d_call ok_check_ladder (hr.mono (by decide : 5 ≤ 7)) rfl mg_check_ladder kp_check_ladder bd_check_ladder (a_cons (d_var (pv 0)) a_nil)))
    (s_cons (s_expr (d_call ok_check_amount (hr.mono (by decide : 3 ≤ 7)) rfl mg_check_amount kp_check_amount bd_check_amount (a_cons (d_var (pv 1)) a_nil)))
    (s_cons (s_ow2 (by decide) (ps_setLc (own := [("rung", 10)]) (i := 2) rfl sc.nd rfl rfl (sw_true rfl rfl rfl (by decide +kernel)) (i_seq (d_ix ix_D (d_r (d_var (pv 0))) (d_r d_int) (fun _ _ => rfl))) (blkOk_by (own := [("rung", 10)]) (N := ["ladder", "amount", "found", "left", "number", "length", "rates", "part", "holder", "rate", "rung", "row"]) (sc := defScope (top 47)) (by decide +kernel)) (fun _ _ _ _ _ => (g_name (pg_name (i := 10) sc.nd rfl (Or.inl rfl)))) (fun _ _ _ _ _ => t_yes) (fun _ _ _ _ _ => (l_bin op_mulL (d_r (d_frz (l_lst (a_cons (d_gtup (is := [0, 1]) rfl gZERO) a_nil)))) (d_r (d_ix ix_D (d_r (d_var (pv 0))) (d_r d_int) (fun _ _ => rfl)))))))
    (s_cons (s_asg (ps_set (i := 3) sc.nd rfl (Or.inl rfl) (d_var (pv 1))))
    (s_cons (s_for PassesOwn.never rfl (i_seq (d_call ok_pieces_of (hr.mono (by decide : 7 ≤ 7)) rfl mg_pieces_of kp_pieces_of bd_pieces_of (a_cons (d_var (pv 0)) a_nil))) (g_tup rfl (gs_cons (g_name (pg_name (i := 4) sc.nd rfl (Or.inl rfl))) (gs_cons (g_name (pg_name (i := 5) sc.nd rfl (Or.inl rfl))) (gs_cons (g_name (pg_name (i := 6) sc.nd rfl (Or.inl rfl))) gs_nil)))) (s_cons (s_asg (ps_set (i := 7) sc.nd rfl (Or.inl rfl) (d_if (c_cmp op_isQ (d_r (d_var (pv 5))) (d_r d_non) (nomark _)) (d_var (pv 3)) (d_call ok_lesser (hr.mono (by decide : 2 ≤ 7)) rfl mg_lesser kp_lesser bd_lesser (a_cons (d_var (pv 3)) (a_cons (d_var (pv 5)) a_nil))))))
    (s_cons (s_asg (ps_set (i := 3) sc.nd rfl (Or.inl rfl) (d_call ok_minus (hr.mono (by decide : 4 ≤ 7)) rfl mg_minus kp_minus bd_minus (a_cons (d_var (pv 3)) (a_cons (d_var (pv 7)) a_nil)))))
    (s_one (s_for PassesOwn.never rfl (i_enum rfl g.enumerate_ (a_cons (d_var (pv 6)) a_nil)) (g_tup rfl (gs_cons (g_name (pg_name (i := 8) sc.nd rfl (Or.inl rfl))) (gs_cons (g_name (pg_name (i := 9) sc.nd rfl (Or.inl rfl))) gs_nil))) (s_one (s_set3 (ps_asg (d_call ok_plus (hr.mono (by decide : 3 ≤ 7)) rfl mg_plus kp_plus bd_plus (a_cons (d_ix2 (pv 2) (d_var (pv 4)) (fun _ _ => rfl) (d_var (pv 8)) (fun _ _ => rfl)) (a_cons (d_call ok_product (hr.mono (by decide : 3 ≤ 7)) rfl mg_product kp_product bd_product (a_cons (d_var (pv 7)) (a_cons (d_var (pv 9)) a_nil))) a_nil))) (pg_sub (pe_ix ix_list (pv 2) (d_var (pv 4)) (fun _ _ => rfl)) (d_var (pv 8)) set_list)))))))))
    (s_one (s_frz2 2 (s_ret (d_callTy ct_tuple rfl g.tuple_ (by decide +kernel) (r_cons (d_r (d_frz (l_comp (own := [("row", 11)]) rfl sc.nd (i_seq (d_var (pv 2))) (blkOk_by (own := [("row", 11)]) (N := ["ladder", "amount", "found", "left", "number", "length", "rates", "part", "holder", "rate", "rung", "row"]) (sc := defScope (top 47)) (by decide +kernel)) (fun _ _ _ _ _ => (g_name (pg_name (i := 11) sc.nd rfl (Or.inl rfl)))) (fun _ _ _ _ _ => t_yes) (fun _ _ _ _ _ => (d_callTy ct_tuple rfl g.tuple_ (by decide +kernel) (r_cons (d_r (d_var (pv 11))) r_nil))) (by decide)))) r_nil))))))))))

theorem sc_pay_next : FnScope ["ladder", "start", "amount", "before", "after", "one", "other"] ["ladder", "start", "amount"] (defScope (top 48)) := ⟨rfl, rfl, rfl, by decide +kernel, rfl, by decide +kernel, by decide +kernel⟩
theorem cal_pay_next {P : Program} {w : World} {K : PySem.W.Frag} {mg : Str → Option Value} {base : Heap} (g : Glob K mg) (F : ∃ f fd, FnP K "pay_next" (top 48) f fd ∧ mg "pay_next" = some (.ref f)) (c_check_ladder : CalP P w K mg base "check_ladder" 5 1 ["value"] F_check_ladder) (c_check_amount : CalP P w K mg base "check_amount" 3 1 ["value"] F_check_amount) (c_all_payments : CalP P w K mg base "all_payments" 9 2 ["ladder", "amount"] F_all_payments) (c_plus : CalP P w K mg base "plus" 3 2 ["one", "other"] F_plus) (c_minus : CalP P w K mg base "minus" 4 2 ["one", "other"] F_minus) : CalP P w K mg base "pay_next" 10 3 ["ladder", "start", "amount"] F_pay_next := by
  obtain ⟨f, fd, F, hm⟩ := F
  obtain ⟨f_check_ladder, fd_check_ladder, ok_check_ladder, mg_check_ladder, kp_check_ladder, bd_check_ladder⟩ := c_check_ladder
  obtain ⟨f_check_amount, fd_check_amount, ok_check_amount, mg_check_amount, kp_check_amount, bd_check_amount⟩ := c_check_amount
  obtain ⟨f_all_payments, fd_all_payments, ok_all_payments, mg_all_payments, kp_all_payments, bd_all_payments⟩ := c_all_payments
  obtain ⟨f_plus, fd_plus, ok_plus, mg_plus, kp_plus, bd_plus⟩ := c_plus
  obtain ⟨f_minus, fd_minus, ok_minus, mg_minus, kp_minus, bd_minus⟩ := c_minus
  refine ⟨f, fd, ?_, hm, F.kp, F.bindsN fun _ _ _ _ _ _ us hl => match us, hl with | [_, _, _], _ => rfl⟩
  have sc := sc_pay_next
  refine fn_P (toFun F) sc rfl fun cdv A outer s H E hr => ?_
  have hu := units64 hr
  have hu5 := units65 hr
  have hu1 := units1 hr
  exact (s_cons (s_expr (d_call ok_check_ladder (hr.mono (by decide : 5 ≤ 9)) rfl mg_check_ladder kp_check_ladder bd_check_ladder (a_cons (d_var (pv 0)) a_nil)))
    (s_cons (s_expr (d_call ok_check_amount (hr.mono (by decide : 3 ≤ 9)) rfl mg_check_amount kp_check_amount bd_check_amount (a_cons (d_var (pv 1)) a_nil)))
    (s_cons (s_expr (d_call ok_check_amount (hr.mono (by decide : 3 ≤ 9)) rfl mg_check_amount kp_check_amount bd_check_amount (a_cons (d_var (pv 2)) a_nil)))
    (s_cons (s_par2 (ps_par (i := 3) (j := 4) rfl sc.nd rfl rfl (by decide) rfl rfl (m_d (d_call ok_all_payments (hr.mono (by decide : 9 ≤ 9)) rfl mg_all_payments kp_all_payments bd_all_payments (a_cons (d_var (pv 0)) (a_cons (d_var (pv 1)) a_nil))) (m_d (d_call ok_all_payments (hr.mono (by decide : 9 ≤ 9)) rfl mg_all_payments kp_all_payments bd_all_payments (a_cons (d_var (pv 0)) (a_cons (d_call ok_plus (hr.mono (by decide : 3 ≤ 9)) rfl mg_plus kp_plus bd_plus (a_cons (d_var (pv 1)) (a_cons (d_var (pv 2)) a_nil))) a_nil))) m_nil)) rfl))
    (s_one (s_ret (d_callTy ct_tuple rfl g.tuple_ (by decide +kernel) (r_cons (d_r (d_frz (l_comp (own := [("one", 5), ("other", 6)]) rfl sc.nd (i_zip rfl g.zip_ (a_cons (d_var (pv 4)) (a_cons (d_var (pv 3)) a_nil))) (blkOk_by (own := [("one", 5), ("other", 6)]) (N := ["ladder", "start", "amount", "before", "after", "one", "other"]) (sc := defScope (top 48)) (by decide +kernel)) (fun _ _ _ _ _ => (g_tup rfl (gs_cons (g_name (pg_name (i := 5) sc.nd rfl (Or.inl rfl))) (gs_cons (g_name (pg_name (i := 6) sc.nd rfl (Or.inl rfl))) gs_nil)))) (fun _ _ _ _ _ => t_yes) (fun _ _ _ _ _ => (d_call ok_minus (hr.mono (by decide : 4 ≤ 9)) rfl mg_minus kp_minus bd_minus (a_cons (d_var (pv 5)) (a_cons (d_var (pv 6)) a_nil)))) (by decide)))) r_nil))))))))

theorem sc_least_amount : FnScope ["ladder", "holder", "goal", "rows", "place", "row", "is_last"] ["ladder", "holder", "goal"] (defScope (top 49)) := ⟨rfl, rfl, rfl, by decide +kernel, rfl, by decide +kernel, by decide +kernel⟩
theorem cal_least_amount {P : Program} {w : World} {K : PySem.W.Frag} {mg : Str → Option Value} {base : Heap} (g : Glob K mg) (F : ∃ f fd, FnP K "least_amount" (top 49) f fd ∧ mg "least_amount" = some (.ref f)) (gZERO : HasZero K mg) (c_check_ladder : CalP P w K mg base "check_ladder" 5 1 ["value"] F_check_ladder) (c_check_holder : CalP P w K mg base "check_holder" 2 2 ["ladder", "holder"] F_check_holder) (c_found_bends : CalP P w K mg base "found_bends" 8 2 ["ladder", "holder"] F_found_bends) (c_is_amount : CalP P w K mg base "is_amount" 2 1 ["value"] F_is_amount) (c_is_less : CalP P w K mg base "is_less" 1 2 ["one", "other"] F_is_less) (c_plus : CalP P w K mg base "plus" 3 2 ["one", "other"] F_plus) (c_quotient : CalP P w K mg base "quotient" 3 2 ["one", "other"] F_quotient) (c_minus : CalP P w K mg base "minus" 4 2 ["one", "other"] F_minus) : CalP P w K mg base "least_amount" 9 3 ["ladder", "holder", "goal"] F_least_amount := by
  obtain ⟨f, fd, F, hm⟩ := F
  obtain ⟨f_check_ladder, fd_check_ladder, ok_check_ladder, mg_check_ladder, kp_check_ladder, bd_check_ladder⟩ := c_check_ladder
  obtain ⟨f_check_holder, fd_check_holder, ok_check_holder, mg_check_holder, kp_check_holder, bd_check_holder⟩ := c_check_holder
  obtain ⟨f_found_bends, fd_found_bends, ok_found_bends, mg_found_bends, kp_found_bends, bd_found_bends⟩ := c_found_bends
  obtain ⟨f_is_amount, fd_is_amount, ok_is_amount, mg_is_amount, kp_is_amount, bd_is_amount⟩ := c_is_amount
  obtain ⟨f_is_less, fd_is_less, ok_is_less, mg_is_less, kp_is_less, bd_is_less⟩ := c_is_less
  obtain ⟨f_plus, fd_plus, ok_plus, mg_plus, kp_plus, bd_plus⟩ := c_plus
  obtain ⟨f_quotient, fd_quotient, ok_quotient, mg_quotient, kp_quotient, bd_quotient⟩ := c_quotient
  obtain ⟨f_minus, fd_minus, ok_minus, mg_minus, kp_minus, bd_minus⟩ := c_minus
  refine ⟨f, fd, ?_, hm, F.kp, F.bindsN fun _ _ _ _ _ _ us hl => match us, hl with | [_, _, _], _ => rfl⟩
  have sc := sc_least_amount
  refine fn_P (toFun F) sc rfl fun cdv A outer s H E hr => ?_
  have hu := units64 hr
  have hu5 := units65 hr
  have hu1 := units1 hr
  exact (s_cons (s_expr (d_call ok_check_ladder (hr.mono (by decide : 5 ≤ 8)) rfl mg_check_ladder kp_check_ladder bd_check_ladder (a_cons (d_var (pv 0)) a_nil)))
    (s_cons (s_expr (d_call ok_check_holder (hr.mono (by decide : 2 ≤ 8)) rfl mg_check_holder kp_check_holder bd_check_holder (a_cons (d_var (pv 0)) (a_cons (d_var (pv 1)) a_nil))))
    (s_cons (s_if (c_not (c_val (d_call ok_is_amount (hr.mono (by decide : 2 ≤ 8)) rfl mg_is_amount kp_is_amount bd_is_amount (a_cons (d_var (pv 2)) a_nil)))) (s_one s_never) s_nil)
    (s_cons (s_asg (ps_set (i := 3) sc.nd rfl (Or.inl rfl) (d_call ok_found_bends (hr.mono (by decide : 8 ≤ 8)) rfl mg_found_bends kp_found_bends bd_found_bends (a_cons (d_var (pv 0)) (a_cons (d_var (pv 1)) a_nil)))))
    (s_cons (s_for PassesOwn.never rfl (i_enum rfl g.enumerate_ (a_cons (d_var (pv 3)) a_nil)) (g_tup rfl (gs_cons (g_name (pg_name (i := 4) sc.nd rfl (Or.inl rfl))) (gs_cons (g_name (pg_name (i := 5) sc.nd rfl (Or.inl rfl))) gs_nil))) (s_cons (s_if (c_not (c_val (d_call ok_is_less (hr.mono (by decide : 1 ≤ 8)) rfl mg_is_less kp_is_less bd_is_less (a_cons (d_ix ix_D (d_r (d_var (pv 5))) (d_r d_int) (fun _ _ => rfl)) (a_cons (d_var (pv 2)) a_nil))))) (s_one (s_ret (d_ix ix_D (d_r (d_var (pv 5))) (d_r d_int) (fun _ _ => rfl)))) s_nil)
    (s_cons (s_asg (ps_set (i := 6) sc.nd rfl (Or.inl rfl) (d_cmp (op_eqQ hu) (d_r (d_bin op_addD (d_r (d_var (pv 4))) (d_r d_int))) (d_r (d_callB cb_len rfl g.len_ (by decide +kernel) (r_cons (d_r (d_var (pv 3))) r_nil))) (nomark _))))
    (s_one (s_if (PW.pt (c_and (c_cmp (op_neQ hu) (d_r (d_ix ix_D (d_r (d_var (pv 5))) (d_r d_int) (fun _ _ => rfl))) (d_r (d_gtup (is := [0, 1]) rfl gZERO)) (nomark _)) (c_and1 (PW.pt (c_or (c_val (d_var (pv 6))) (c_or1 (c_not (c_val (d_call ok_is_less (hr.mono (by decide : 1 ≤ 8)) rfl mg_is_less kp_is_less bd_is_less (a_cons (d_ix ix_D (d_r (d_ix ix_D (d_r (d_var (pv 3))) (d_r (d_bin op_addD (d_r (d_var (pv 4))) (d_r d_int))) (fun _ _ => rfl))) (d_r d_int) (fun _ _ => rfl)) (a_cons (d_var (pv 2)) a_nil))))))))))) (s_one (s_ret (d_call ok_plus (hr.mono (by decide : 3 ≤ 8)) rfl mg_plus kp_plus bd_plus (a_cons (d_ix ix_D (d_r (d_var (pv 5))) (d_r d_int) (fun _ _ => rfl)) (a_cons (d_call ok_quotient (hr.mono (by decide : 3 ≤ 8)) rfl mg_quotient kp_quotient bd_quotient (a_cons (d_call ok_minus (hr.mono (by decide : 4 ≤ 8)) rfl mg_minus kp_minus bd_minus (a_cons (d_var (pv 2)) (a_cons (d_ix ix_D (d_r (d_var (pv 5))) (d_r d_int) (fun _ _ => rfl)) a_nil))) (a_cons (d_ix ix_D (d_r (d_var (pv 5))) (d_r d_int) (fun _ _ => rfl)) a_nil))) a_nil))))) s_nil)))))
    (s_one (s_ret d_non)))))))

theorem sc_bends : FnScope ["ladder", "holder"] ["ladder", "holder"] (defScope (top 51)) := ⟨rfl, rfl, rfl, by decide +kernel, rfl, by decide +kernel, by decide +kernel⟩
theorem cal_bends {P : Program} {w : World} {K : PySem.W.Frag} {mg : Str → Option Value} {base : Heap} (g : Glob K mg) (F : ∃ f fd, FnP K "bends" (top 51) f fd ∧ mg "bends" = some (.ref f)) (c_check_ladder : CalP P w K mg base "check_ladder" 5 1 ["value"] F_check_ladder) (c_check_holder : CalP P w K mg base "check_holder" 2 2 ["ladder", "holder"] F_check_holder) (c_found_bends : CalP P w K mg base "found_bends" 8 2 ["ladder", "holder"] F_found_bends) : CalP P w K mg base "bends" 9 2 ["ladder", "holder"] F_bends := by
  obtain ⟨f, fd, F, hm⟩ := F
  obtain ⟨f_check_ladder, fd_check_ladder, ok_check_ladder, mg_check_ladder, kp_check_ladder, bd_check_ladder⟩ := c_check_ladder
  obtain ⟨f_check_holder, fd_check_holder, ok_check_holder, mg_check_holder, kp_check_holder, bd_check_holder⟩ := c_check_holder
  obtain ⟨f_found_bends, fd_found_bends, ok_found_bends, mg_found_bends, kp_found_bends, bd_found_bends⟩ := c_found_bends
  refine ⟨f, fd, ?_, hm, F.kp, F.bindsN fun _ _ _ _ _ _ us hl => match us, hl with | [_, _], _ => rfl⟩
  have sc := sc_bends
  refine fn_P (toFun F) sc rfl fun cdv A outer s H E hr => ?_
  have hu := units64 hr
  have hu5 := units65 hr
  have hu1 := units1 hr
  exact (s_cons (s_expr (d_call ok_check_ladder (hr.mono (by decide : 5 ≤ 8)) rfl mg_check_ladder kp_check_ladder bd_check_ladder (a_cons (d_var (pv 0)) a_nil)))
    (s_cons (s_expr (d_call ok_check_holder (hr.mono (by decide : 2 ≤ 8)) rfl mg_check_holder kp_check_holder bd_check_holder (a_cons (d_var (pv 0)) (a_cons (d_var (pv 1)) a_nil))))
    (s_one (s_ret (d_callTy ct_tuple rfl g.tuple_ (by decide +kernel) (r_cons (d_r (d_call ok_found_bends (hr.mono (by decide : 8 ≤ 8)) rfl mg_found_bends kp_found_bends bd_found_bends (a_cons (d_var (pv 0)) (a_cons (d_var (pv 1)) a_nil)))) r_nil))))))

theorem sc_rate_after : FnScope ["ladder", "holder", "amount", "row"] ["ladder", "holder", "amount"] (defScope (top 52)) := ⟨rfl, rfl, rfl, by decide +kernel, rfl, by decide +kernel, by decide +kernel⟩
theorem cal_rate_after {P : Program} {w : World} {K : PySem.W.Frag} {mg : Str → Option Value} {base : Heap} (g : Glob K mg) (F : ∃ f fd, FnP K "rate_after" (top 52) f fd ∧ mg "rate_after" = some (.ref f)) (c_check_ladder : CalP P w K mg base "check_ladder" 5 1 ["value"] F_check_ladder) (c_check_holder : CalP P w K mg base "check_holder" 2 2 ["ladder", "holder"] F_check_holder) (c_check_amount : CalP P w K mg base "check_amount" 3 1 ["value"] F_check_amount) (c_found_bends : CalP P w K mg base "found_bends" 8 2 ["ladder", "holder"] F_found_bends) (c_is_less : CalP P w K mg base "is_less" 1 2 ["one", "other"] F_is_less) : CalP P w K mg base "rate_after" 9 3 ["ladder", "holder", "amount"] F_rate_after := by
  obtain ⟨f, fd, F, hm⟩ := F
  obtain ⟨f_check_ladder, fd_check_ladder, ok_check_ladder, mg_check_ladder, kp_check_ladder, bd_check_ladder⟩ := c_check_ladder
  obtain ⟨f_check_holder, fd_check_holder, ok_check_holder, mg_check_holder, kp_check_holder, bd_check_holder⟩ := c_check_holder
  obtain ⟨f_check_amount, fd_check_amount, ok_check_amount, mg_check_amount, kp_check_amount, bd_check_amount⟩ := c_check_amount
  obtain ⟨f_found_bends, fd_found_bends, ok_found_bends, mg_found_bends, kp_found_bends, bd_found_bends⟩ := c_found_bends
  obtain ⟨f_is_less, fd_is_less, ok_is_less, mg_is_less, kp_is_less, bd_is_less⟩ := c_is_less
  refine ⟨f, fd, ?_, hm, F.kp, F.bindsN fun _ _ _ _ _ _ us hl => match us, hl with | [_, _, _], _ => rfl⟩
  have sc := sc_rate_after
  refine fn_P (toFun F) sc rfl fun cdv A outer s H E hr => ?_
  have hu := units64 hr
  have hu5 := units65 hr
  have hu1 := units1 hr
  exact (s_cons (s_expr (d_call ok_check_ladder (hr.mono (by decide : 5 ≤ 8)) rfl mg_check_ladder kp_check_ladder bd_check_ladder (a_cons (d_var (pv 0)) a_nil)))
    (s_cons (s_expr (d_call ok_check_holder (hr.mono (by decide : 2 ≤ 8)) rfl mg_check_holder kp_check_holder bd_check_holder (a_cons (d_var (pv 0)) (a_cons (d_var (pv 1)) a_nil))))
    (s_cons (s_expr (d_call ok_check_amount (hr.mono (by decide : 3 ≤ 8)) rfl mg_check_amount kp_check_amount bd_check_amount (a_cons (d_var (pv 2)) a_nil)))
    (s_one (s_ret (d_ix ix_D (d_r (d_ix ix_D (d_r (d_frz (l_comp (own := [("row", 3)]) rfl sc.nd (i_seq (d_call ok_found_bends (hr.mono (by decide : 8 ≤ 8)) rfl mg_found_bends kp_found_bends bd_found_bends (a_cons (d_var (pv 0)) (a_cons (d_var (pv 1)) a_nil)))) (blkOk_by (own := [("row", 3)]) (N := ["ladder", "holder", "amount", "row"]) (sc := defScope (top 52)) (by decide +kernel)) (fun _ _ _ _ _ => (g_name (pg_name (i := 3) sc.nd rfl (Or.inl rfl)))) (fun _ _ _ _ _ => (t_one (c_not (c_val (d_call ok_is_less (hr.mono (by decide : 1 ≤ 8)) rfl mg_is_less kp_is_less bd_is_less (a_cons (d_var (pv 2)) (a_cons (d_ix ix_D (d_r (d_var (pv 3))) (d_r d_int) (fun _ _ => rfl)) a_nil))))))) (fun _ _ _ _ _ => (d_var (pv 3))) (by decide)))) (d_r (d_un un_negD (d_r d_int))) (fun _ _ => rfl))) (d_r d_int) (fun _ _ => rfl)))))))

theorem sc_check_both : FnScope ["one", "other"] ["one", "other"] (defScope (top 54)) := ⟨rfl, rfl, rfl, by decide +kernel, rfl, by decide +kernel, by decide +kernel⟩
theorem cal_check_both {P : Program} {w : World} {K : PySem.W.Frag} {mg : Str → Option Value} {base : Heap} (g : Glob K mg) (F : ∃ f fd, FnP K "check_both" (top 54) f fd ∧ mg "check_both" = some (.ref f)) (c_check_ladder : CalP P w K mg base "check_ladder" 5 1 ["value"] F_check_ladder) : CalP P w K mg base "check_both" 6 2 ["one", "other"] F_check_both := by
  obtain ⟨f, fd, F, hm⟩ := F
  obtain ⟨f_check_ladder, fd_check_ladder, ok_check_ladder, mg_check_ladder, kp_check_ladder, bd_check_ladder⟩ := c_check_ladder
  refine ⟨f, fd, ?_, hm, F.kp, F.bindsN fun _ _ _ _ _ _ us hl => match us, hl with | [_, _], _ => rfl⟩
  have sc := sc_check_both
  refine fn_P (toFun F) sc rfl fun cdv A outer s H E hr => ?_
  have hu := units64 hr
  have hu5 := units65 hr
  have hu1 := units1 hr
  exact (s_cons (s_expr (d_call ok_check_ladder (hr.mono (by decide : 5 ≤ 5)) rfl mg_check_ladder kp_check_ladder bd_check_ladder (a_cons (d_var (pv 0)) a_nil)))
    (s_one (s_expr (d_call ok_check_ladder (hr.mono (by decide : 5 ≤ 5)) rfl mg_check_ladder kp_check_ladder bd_check_ladder (a_cons (d_var (pv 1)) a_nil)))))

theorem sc_check_like : FnScope ["one", "other"] ["one", "other"] (defScope (top 55)) := ⟨rfl, rfl, rfl, by decide +kernel, rfl, by decide +kernel, by decide +kernel⟩
theorem cal_check_like {P : Program} {w : World} {K : PySem.W.Frag} {mg : Str → Option Value} {base : Heap} (g : Glob K mg) (F : ∃ f fd, FnP K "check_like" (top 55) f fd ∧ mg "check_like" = some (.ref f))  : CalP P w K mg base "check_like" 1 2 ["one", "other"] F_check_like := by
  obtain ⟨f, fd, F, hm⟩ := F
  refine ⟨f, fd, ?_, hm, F.kp, F.bindsN fun _ _ _ _ _ _ us hl => match us, hl with | [_, _], _ => rfl⟩
  have sc := sc_check_like
  refine fn_P (toFun F) sc rfl fun cdv A outer s H E hr => ?_
  have hu := units64 hr
  have hu5 := units65 hr
  have hu1 := units1 hr
  exact (s_one (s_if (c_cmp (op_neQ hu) (d_r (d_ix ix_D (d_r (d_var (pv 0))) (d_r d_int) (fun _ _ => rfl))) (d_r (d_ix ix_D (d_r (d_var (pv 1))) (d_r d_int) (fun _ _ => rfl))) (nomark _)) (s_one s_never) s_nil))

theorem sc_rate_at : FnScope ["rows", "amount", "row"] ["rows", "amount"] (defScope (top 56)) := ⟨rfl, rfl, rfl, by decide +kernel, rfl, by decide +kernel, by decide +kernel⟩
theorem cal_rate_at {P : Program} {w : World} {K : PySem.W.Frag} {mg : Str → Option Value} {base : Heap} (g : Glob K mg) (F : ∃ f fd, FnP K "rate_at" (top 56) f fd ∧ mg "rate_at" = some (.ref f)) (c_is_less : CalP P w K mg base "is_less" 1 2 ["one", "other"] F_is_less) : CalP P w K mg base "rate_at" 2 2 ["rows", "amount"] F_rate_at := by
  obtain ⟨f, fd, F, hm⟩ := F
  obtain ⟨f_is_less, fd_is_less, ok_is_less, mg_is_less, kp_is_less, bd_is_less⟩ := c_is_less
  refine ⟨f, fd, ?_, hm, F.kp, F.bindsN fun _ _ _ _ _ _ us hl => match us, hl with | [_, _], _ => rfl⟩
  have sc := sc_rate_at
  refine fn_P (toFun F) sc rfl fun cdv A outer s H E hr => ?_
  have hu := units64 hr
  have hu5 := units65 hr
  have hu1 := units1 hr
  exact (s_one (s_ret (d_ix ix_D (d_r (d_ix ix_D (d_r (d_frz (l_comp (own := [("row", 2)]) rfl sc.nd (i_seq (d_var (pv 0))) (blkOk_by (own := [("row", 2)]) (N := ["rows", "amount", "row"]) (sc := defScope (top 56)) (by decide +kernel)) (fun _ _ _ _ _ => (g_name (pg_name (i := 2) sc.nd rfl (Or.inl rfl)))) (fun _ _ _ _ _ => (t_one (c_not (c_val (d_call ok_is_less (hr.mono (by decide : 1 ≤ 1)) rfl mg_is_less kp_is_less bd_is_less (a_cons (d_var (pv 1)) (a_cons (d_ix ix_D (d_r (d_var (pv 2))) (d_r d_int) (fun _ _ => rfl)) a_nil))))))) (fun _ _ _ _ _ => (d_var (pv 2))) (by decide)))) (d_r (d_un un_negD (d_r d_int))) (fun _ _ => rfl))) (d_r d_int) (fun _ _ => rfl))))

theorem sc_in_order : FnScope ["amounts", "found", "amount", "place", "other"] ["amounts"] (defScope (top 57)) := ⟨rfl, rfl, rfl, by decide +kernel, rfl, by decide +kernel, by decide +kernel⟩
theorem cal_in_order {P : Program} {w : World} {K : PySem.W.Frag} {mg : Str → Option Value} {base : Heap} (g : Glob K mg) (F : ∃ f fd, FnP K "in_order" (top 57) f fd ∧ mg "in_order" = some (.ref f)) (c_is_less : CalP P w K mg base "is_less" 1 2 ["one", "other"] F_is_less) : CalP P w K mg base "in_order" 2 1 ["amounts"] F_in_order := by
  obtain ⟨f, fd, F, hm⟩ := F
  obtain ⟨f_is_less, fd_is_less, ok_is_less, mg_is_less, kp_is_less, bd_is_less⟩ := c_is_less
  refine ⟨f, fd, ?_, hm, F.kp, F.bindsN fun _ _ _ _ _ _ us hl => match us, hl with | [_], _ => rfl⟩
  have sc := sc_in_order
  refine fn_P (toFun F) sc rfl fun cdv A outer s H E hr => ?_
  have hu := units64 hr
  have hu5 := units65 hr
  have hu1 := units1 hr
  exact (s_cons (s_asg (ps_set (i := 1) sc.nd rfl (Or.inl rfl) (d_frz (l_lst a_nil))))
    (s_cons (s_for PassesOwn.never rfl (i_seq (d_var (pv 0))) (g_name (pg_name (i := 2) sc.nd rfl (Or.inr rfl))) (s_cons (s_asg (ps_set (i := 3) sc.nd rfl (Or.inl rfl) (d_callB cb_len rfl g.len_ (by decide +kernel) (r_cons (d_r (d_frz (l_comp (own := [("other", 4)]) rfl sc.nd (i_seq (d_var (pv 1))) (blkOk_by (own := [("other", 4)]) (N := ["amounts", "found", "amount", "place", "other"]) (sc := defScope (top 57)) (by decide +kernel)) (fun _ _ _ _ _ => (g_name (pg_name (i := 4) sc.nd rfl (Or.inl rfl)))) (fun _ _ _ _ _ => (t_one (c_val (d_call ok_is_less (hr.mono (by decide : 1 ≤ 1)) rfl mg_is_less kp_is_less bd_is_less (a_cons (d_var (pv 4)) (a_cons (d_var (pv 2)) a_nil)))))) (fun _ _ _ _ _ => (d_var (pv 4))) (by decide)))) r_nil))))
    (s_one (s_if (PW.pt (c_or (c_cmp (op_eqQ hu) (d_r (d_var (pv 3))) (d_r (d_callB cb_len rfl g.len_ (by decide +kernel) (r_cons (d_r (d_var (pv 1))) r_nil))) (nomark _)) (c_or1 (c_cmp (op_neQ hu) (d_r (d_ix ix_D (d_r (d_var (pv 1))) (d_r (d_var (pv 3))) (fun _ _ => rfl))) (d_r (d_var (pv 2))) (nomark _))))) (s_one (s_asg (ps_set (i := 1) sc.nd rfl (Or.inl rfl) (d_bin op_addD (d_r (d_bin op_addD (d_r (d_slice (d_r (d_var (pv 1))) o_none (o_some (d_var (pv 3))))) (d_r (d_frz (l_lst (a_cons (d_var (pv 2)) a_nil)))))) (d_r (d_slice (d_r (d_var (pv 1))) (o_some (d_var (pv 3))) o_none)))))) s_nil))))
    (s_one (s_ret (d_var (pv 1))))))

theorem sc_sign_of : FnScope ["one"] ["one"] (defScope (top 58)) := ⟨rfl, rfl, rfl, by decide +kernel, rfl, by decide +kernel, by decide +kernel⟩
theorem cal_sign_of {P : Program} {w : World} {K : PySem.W.Frag} {mg : Str → Option Value} {base : Heap} (g : Glob K mg) (F : ∃ f fd, FnP K "sign_of" (top 58) f fd ∧ mg "sign_of" = some (.ref f))  : CalP P w K mg base "sign_of" 1 1 ["one"] F_sign_of := by
  obtain ⟨f, fd, F, hm⟩ := F
  refine ⟨f, fd, ?_, hm, F.kp, F.bindsN fun _ _ _ _ _ _ us hl => match us, hl with | [_], _ => rfl⟩
  have sc := sc_sign_of
  refine fn_P (toFun F) sc rfl fun cdv A outer s H E hr => ?_
  have hu := units64 hr
  have hu5 := units65 hr
  have hu1 := units1 hr
  exact (s_one (s_ret (d_bin op_subD (d_r (d_callTy ct_int rfl g.int_ (by decide +kernel) (r_cons (d_r (d_cmp op_gtD (d_r (d_ix ix_D (d_r (d_var (pv 0))) (d_r d_int) (fun _ _ => rfl))) (d_r d_int) (nomark _))) r_nil))) (d_r (d_callTy ct_int rfl g.int_ (by decide +kernel) (r_cons (d_r (d_cmp op_ltD (d_r (d_ix ix_D (d_r (d_var (pv 0))) (d_r d_int) (fun _ _ => rfl))) (d_r d_int) (nomark _))) r_nil))))))

theorem sc_found_signs : FnScope ["one", "other", "holder", "first", "second", "starts", "found", "place", "start", "gap", "slope", "rows", "row", "zero"] ["one", "other", "holder"] (defScope (top 59)) := ⟨rfl, rfl, rfl, by decide +kernel, rfl, by decide +kernel, by decide +kernel⟩
theorem cal_found_signs {P : Program} {w : World} {K : PySem.W.Frag} {mg : Str → Option Value} {base : Heap} (g : Glob K mg) (F : ∃ f fd, FnP K "found_signs" (top 59) f fd ∧ mg "found_signs" = some (.ref f)) (gZERO : HasZero K mg) (c_in_order : CalP P w K mg base "in_order" 2 1 ["amounts"] F_in_order) (c_found_bends : CalP P w K mg base "found_bends" 8 2 ["ladder", "holder"] F_found_bends) (c_minus : CalP P w K mg base "minus" 4 2 ["one", "other"] F_minus) (c_payment_at : CalP P w K mg base "payment_at" 5 2 ["rows", "amount"] F_payment_at) (c_rate_at : CalP P w K mg base "rate_at" 2 2 ["rows", "amount"] F_rate_at) (c_plus : CalP P w K mg base "plus" 3 2 ["one", "other"] F_plus) (c_sign_of : CalP P w K mg base "sign_of" 1 1 ["one"] F_sign_of) (c_quotient : CalP P w K mg base "quotient" 3 2 ["one", "other"] F_quotient) (c_is_less : CalP P w K mg base "is_less" 1 2 ["one", "other"] F_is_less) : CalP P w K mg base "found_signs" 9 3 ["one", "other", "holder"] F_found_signs := by
  obtain ⟨f, fd, F, hm⟩ := F
  obtain ⟨f_in_order, fd_in_order, ok_in_order, mg_in_order, kp_in_order, bd_in_order⟩ := c_in_order
  obtain ⟨f_found_bends, fd_found_bends, ok_found_bends, mg_found_bends, kp_found_bends, bd_found_bends⟩ := c_found_bends
  obtain ⟨f_minus, fd_minus, ok_minus, mg_minus, kp_minus, bd_minus⟩ := c_minus
  obtain ⟨f_payment_at, fd_payment_at, ok_payment_at, mg_payment_at, kp_payment_at, bd_payment_at⟩ := c_payment_at
  obtain ⟨f_rate_at, fd_rate_at, ok_rate_at, mg_rate_at, kp_rate_at, bd_rate_at⟩ := c_rate_at
  obtain ⟨f_plus, fd_plus, ok_plus, mg_plus, kp_plus, bd_plus⟩ := c_plus
  obtain ⟨f_sign_of, fd_sign_of, ok_sign_of, mg_sign_of, kp_sign_of, bd_sign_of⟩ := c_sign_of
  obtain ⟨f_quotient, fd_quotient, ok_quotient, mg_quotient, kp_quotient, bd_quotient⟩ := c_quotient
  obtain ⟨f_is_less, fd_is_less, ok_is_less, mg_is_less, kp_is_less, bd_is_less⟩ := c_is_less
  refine ⟨f, fd, ?_, hm, F.kp, F.bindsN fun _ _ _ _ _ _ us hl => match us, hl with | [_, _, _], _ => rfl⟩
  have sc := sc_found_signs
  refine fn_P (toFun F) sc rfl fun cdv A outer s H E hr => ?_
  have hu := units64 hr
  have hu5 := units65 hr
  have hu1 := units1 hr
  exact (s_cons (s_par2 (ps_par (i := 3) (j := 4) rfl sc.nd rfl rfl (by decide) rfl rfl (m_d (d_call ok_found_bends (hr.mono (by decide : 8 ≤ 8)) rfl mg_found_bends kp_found_bends bd_found_bends (a_cons (d_var (pv 0)) (a_cons (d_var (pv 2)) a_nil))) (m_d (d_call ok_found_bends (hr.mono (by decide : 8 ≤ 8)) rfl mg_found_bends kp_found_bends bd_found_bends (a_cons (d_var (pv 1)) (a_cons (d_var (pv 2)) a_nil))) m_nil)) rfl))
    (s_cons (s_asg (ps_set (i := 5) sc.nd rfl (Or.inl rfl) (d_call ok_in_order (hr.mono (by decide : 2 ≤ 8)) rfl mg_in_order kp_in_order bd_in_order (a_cons (d_frz (l_comp (own := [("row", 12)]) rfl sc.nd (i_seq (d_bin op_addD (d_r (d_var (pv 3))) (d_r (d_var (pv 4))))) (blkOk_by (own := [("row", 12)]) (N := ["one", "other", "holder", "first", "second", "starts", "found", "place", "start", "gap", "slope", "rows", "row", "zero"]) (sc := defScope (top 59)) (by decide +kernel)) (fun _ _ _ _ _ => (g_name (pg_name (i := 12) sc.nd rfl (Or.inl rfl)))) (fun _ _ _ _ _ => t_yes) (fun _ _ _ _ _ => (d_ix ix_D (d_r (d_var (pv 12))) (d_r d_int) (fun _ _ => rfl))) (by decide))) a_nil))))
    (s_cons (s_own (ps_set (i := 6) sc.nd rfl (Or.inl rfl) (l_lst a_nil)))
    (s_cons (s_for PassesOwn.never rfl (i_enum rfl g.enumerate_ (a_cons (d_var (pv 5)) a_nil)) (g_tup rfl (gs_cons (g_name (pg_name (i := 7) sc.nd rfl (Or.inl rfl))) (gs_cons (g_name (pg_name (i := 8) sc.nd rfl (Or.inl rfl))) gs_nil))) (s_cons (s_asg (ps_set (i := 9) sc.nd rfl (Or.inl rfl) (d_call ok_minus (hr.mono (by decide : 4 ≤ 8)) rfl mg_minus kp_minus bd_minus (a_cons (d_call ok_payment_at (hr.mono (by decide : 5 ≤ 8)) rfl mg_payment_at kp_payment_at bd_payment_at (a_cons (d_var (pv 4)) (a_cons (d_var (pv 8)) a_nil))) (a_cons (d_call ok_payment_at (hr.mono (by decide : 5 ≤ 8)) rfl mg_payment_at kp_payment_at bd_payment_at (a_cons (d_var (pv 3)) (a_cons (d_var (pv 8)) a_nil))) a_nil)))))
    (s_cons (s_asg (ps_set (i := 10) sc.nd rfl (Or.inl rfl) (d_call ok_minus (hr.mono (by decide : 4 ≤ 8)) rfl mg_minus kp_minus bd_minus (a_cons (d_call ok_rate_at (hr.mono (by decide : 2 ≤ 8)) rfl mg_rate_at kp_rate_at bd_rate_at (a_cons (d_var (pv 4)) (a_cons (d_var (pv 8)) a_nil))) (a_cons (d_call ok_rate_at (hr.mono (by decide : 2 ≤ 8)) rfl mg_rate_at kp_rate_at bd_rate_at (a_cons (d_var (pv 3)) (a_cons (d_var (pv 8)) a_nil))) a_nil)))))
    (s_cons (s_own (ps_set (i := 11) sc.nd rfl (Or.inl rfl) (l_lst (a_cons (d_tup (a_cons (d_var (pv 8)) (a_cons (d_if (c_cmp (op_neQ hu) (d_r (d_var (pv 9))) (d_r (d_gtup (is := [0, 1]) rfl gZERO)) (nomark _)) (d_call ok_sign_of (hr.mono (by decide : 1 ≤ 8)) rfl mg_sign_of kp_sign_of bd_sign_of (a_cons (d_var (pv 9)) a_nil)) (d_call ok_sign_of (hr.mono (by decide : 1 ≤ 8)) rfl mg_sign_of kp_sign_of bd_sign_of (a_cons (d_var (pv 10)) a_nil))) a_nil))) a_nil))))
    (s_cons (s_if (c_cmp op_ltD (d_r (d_bin op_mulD (d_r (d_call ok_sign_of (hr.mono (by decide : 1 ≤ 8)) rfl mg_sign_of kp_sign_of bd_sign_of (a_cons (d_var (pv 9)) a_nil))) (d_r (d_call ok_sign_of (hr.mono (by decide : 1 ≤ 8)) rfl mg_sign_of kp_sign_of bd_sign_of (a_cons (d_var (pv 10)) a_nil))))) (d_r d_int) (nomark _)) (s_cons (s_asg (ps_set (i := 13) sc.nd rfl (Or.inl rfl) (d_call ok_plus (hr.mono (by decide : 3 ≤ 8)) rfl mg_plus kp_plus bd_plus (a_cons (d_var (pv 8)) (a_cons (d_call ok_quotient (hr.mono (by decide : 3 ≤ 8)) rfl mg_quotient kp_quotient bd_quotient (a_cons (d_tup (a_cons (d_callB cb_abs rfl g.abs_ (by decide +kernel) (r_cons (d_r (d_ix ix_D (d_r (d_var (pv 9))) (d_r d_int) (fun _ _ => rfl))) r_nil)) (a_cons (d_ix ix_D (d_r (d_var (pv 9))) (d_r d_int) (fun _ _ => rfl)) a_nil))) (a_cons (d_tup (a_cons (d_callB cb_abs rfl g.abs_ (by decide +kernel) (r_cons (d_r (d_ix ix_D (d_r (d_var (pv 10))) (d_r d_int) (fun _ _ => rfl))) r_nil)) (a_cons (d_ix ix_D (d_r (d_var (pv 10))) (d_r d_int) (fun _ _ => rfl)) a_nil))) a_nil))) a_nil)))))
    (s_one (s_if (PW.pt (c_or (c_cmp (op_eqQ hu) (d_r (d_bin op_addD (d_r (d_var (pv 7))) (d_r d_int))) (d_r (d_callB cb_len rfl g.len_ (by decide +kernel) (r_cons (d_r (d_var (pv 5))) r_nil))) (nomark _)) (c_or1 (c_val (d_call ok_is_less (hr.mono (by decide : 1 ≤ 8)) rfl mg_is_less kp_is_less bd_is_less (a_cons (d_var (pv 13)) (a_cons (d_ix ix_D (d_r (d_var (pv 5))) (d_r (d_bin op_addD (d_r (d_var (pv 7))) (d_r d_int))) (fun _ _ => rfl)) a_nil))))))) (s_one (s_app (ps_expr (pe_bm PySem.F.plainAttrs_list PySem.F.slot_list_append PySem.F.type_list_append mt_append (pv 11) (pa_cons (d_tup (a_cons (d_var (pv 13)) (a_cons (d_call ok_sign_of (hr.mono (by decide : 1 ≤ 8)) rfl mg_sign_of kp_sign_of bd_sign_of (a_cons (d_var (pv 10)) a_nil)) a_nil))) pa_nil))))) s_nil))) s_nil)
    (s_one (s_frz 11 (s_for PassesOwn.never rfl (i_seq (d_var (pv 11))) (g_name (pg_name (i := 12) sc.nd rfl (Or.inl rfl))) (s_one (s_if (PW.pt (c_or (c_cmp (op_eqQ hu) (d_bor (pv 6)) (d_r (d_frz (l_lst a_nil))) (nomark _)) (c_or1 (c_cmp (op_neQ hu) (d_r (d_ix ix_D (d_r (d_ix ix_D (d_bor (pv 6)) (d_r (d_un un_negD (d_r d_int))) (fun _ _ => rfl))) (d_r d_int) (fun _ _ => rfl))) (d_r (d_ix ix_D (d_r (d_var (pv 12))) (d_r d_int) (fun _ _ => rfl))) (nomark _))))) (s_one (s_app (ps_expr (pe_bm PySem.F.plainAttrs_list PySem.F.slot_list_append PySem.F.type_list_append mt_append (pv 6) (pa_cons (d_var (pv 12)) pa_nil))))) s_nil))))))))))
    (s_one (s_frz 6 (s_ret (d_var (pv 6)))))))))

theorem sc_first_parting : FnScope ["one", "other", "some", "holder", "amount", "sign"] ["one", "other"] (defScope (top 60)) := ⟨rfl, rfl, rfl, by decide +kernel, rfl, by decide +kernel, by decide +kernel⟩
theorem cal_first_parting {P : Program} {w : World} {K : PySem.W.Frag} {mg : Str → Option Value} {base : Heap} (g : Glob K mg) (F : ∃ f fd, FnP K "first_parting" (top 60) f fd ∧ mg "first_parting" = some (.ref f)) (c_in_order : CalP P w K mg base "in_order" 2 1 ["amounts"] F_in_order) (c_found_signs : CalP P w K mg base "found_signs" 9 3 ["one", "other", "holder"] F_found_signs) : CalP P w K mg base "first_parting" 10 2 ["one", "other"] F_first_parting := by
  obtain ⟨f, fd, F, hm⟩ := F
  obtain ⟨f_in_order, fd_in_order, ok_in_order, mg_in_order, kp_in_order, bd_in_order⟩ := c_in_order
  obtain ⟨f_found_signs, fd_found_signs, ok_found_signs, mg_found_signs, kp_found_signs, bd_found_signs⟩ := c_found_signs
  refine ⟨f, fd, ?_, hm, F.kp, F.bindsN fun _ _ _ _ _ _ us hl => match us, hl with | [_, _], _ => rfl⟩
  have sc := sc_first_parting
  refine fn_P (toFun F) sc rfl fun cdv A outer s H E hr => ?_
  have hu := units64 hr
  have hu5 := units65 hr
  have hu1 := units1 hr
  exact (s_cons (s_own (ps_set (i := 2) sc.nd rfl (Or.inl rfl) (l_lst a_nil)))
    (s_cons (s_for PassesOwn.never rfl (i_rng rfl g.range_ (a_cons (d_ix ix_D (d_r (d_var (pv 0))) (d_r d_int) (fun _ _ => rfl)) a_nil)) (g_name (pg_name (i := 3) sc.nd rfl (Or.inl rfl))) (s_one (s_ext (ps_expr (pe_bm PySem.F.plainAttrs_list PySem.F.slot_list_extend PySem.F.type_list_extend mt_extend (pv 2) (pa_cons (l_comp (own := [("amount", 4), ("sign", 5)]) rfl sc.nd (i_seq (d_call ok_found_signs (hr.mono (by decide : 9 ≤ 9)) rfl mg_found_signs kp_found_signs bd_found_signs (a_cons (d_var (pv 0)) (a_cons (d_var (pv 1)) (a_cons (d_var (pv 3)) a_nil))))) (blkOk_by (own := [("amount", 4), ("sign", 5)]) (N := ["one", "other", "some", "holder", "amount", "sign"]) (sc := defScope (top 60)) (by decide +kernel)) (fun _ _ _ _ _ => (g_tup rfl (gs_cons (g_name (pg_name (i := 4) sc.nd rfl (Or.inl rfl))) (gs_cons (g_name (pg_name (i := 5) sc.nd rfl (Or.inl rfl))) gs_nil)))) (fun _ _ _ _ _ => (t_one (c_cmp (op_neQ hu) (d_r (d_var (pv 5))) (d_r d_int) (nomark _)))) (fun _ _ _ _ _ => (d_var (pv 4))) (by decide)) pa_nil))))))
    (s_one (s_frz 2 (s_ret (d_if (c_cmp (op_neQ hu) (d_bor (pv 2)) (d_r (d_frz (l_lst a_nil))) (nomark _)) (d_ix ix_D (d_r (d_call ok_in_order (hr.mono (by decide : 2 ≤ 9)) rfl mg_in_order kp_in_order bd_in_order (a_cons (d_var (pv 2)) a_nil))) (d_r d_int) (fun _ _ => rfl)) d_non))))))

theorem sc_are_alike : FnScope ["one", "other"] ["one", "other"] (defScope (top 61)) := ⟨rfl, rfl, rfl, by decide +kernel, rfl, by decide +kernel, by decide +kernel⟩
theorem cal_are_alike {P : Program} {w : World} {K : PySem.W.Frag} {mg : Str → Option Value} {base : Heap} (g : Glob K mg) (F : ∃ f fd, FnP K "are_alike" (top 61) f fd ∧ mg "are_alike" = some (.ref f)) (c_check_both : CalP P w K mg base "check_both" 6 2 ["one", "other"] F_check_both) (c_check_like : CalP P w K mg base "check_like" 1 2 ["one", "other"] F_check_like) (c_first_parting : CalP P w K mg base "first_parting" 10 2 ["one", "other"] F_first_parting) : CalP P w K mg base "are_alike" 11 2 ["one", "other"] F_are_alike := by
  obtain ⟨f, fd, F, hm⟩ := F
  obtain ⟨f_check_both, fd_check_both, ok_check_both, mg_check_both, kp_check_both, bd_check_both⟩ := c_check_both
  obtain ⟨f_check_like, fd_check_like, ok_check_like, mg_check_like, kp_check_like, bd_check_like⟩ := c_check_like
  obtain ⟨f_first_parting, fd_first_parting, ok_first_parting, mg_first_parting, kp_first_parting, bd_first_parting⟩ := c_first_parting
  refine ⟨f, fd, ?_, hm, F.kp, F.bindsN fun _ _ _ _ _ _ us hl => match us, hl with | [_, _], _ => rfl⟩
  have sc := sc_are_alike
  refine fn_P (toFun F) sc rfl fun cdv A outer s H E hr => ?_
  have hu := units64 hr
  have hu5 := units65 hr
  have hu1 := units1 hr
  exact (s_cons (s_expr (d_call ok_check_both (hr.mono (by decide : 6 ≤ 10)) rfl mg_check_both kp_check_both bd_check_both (a_cons (d_var (pv 0)) (a_cons (d_var (pv 1)) a_nil))))
    (s_cons (s_expr (d_call ok_check_like (hr.mono (by decide : 1 ≤ 10)) rfl mg_check_like kp_check_like bd_check_like (a_cons (d_var (pv 0)) (a_cons (d_var (pv 1)) a_nil))))
    (s_one (s_ret (d_cmp op_isQ (d_r (d_call ok_first_parting (hr.mono (by decide : 10 ≤ 10)) rfl mg_first_parting kp_first_parting bd_first_parting (a_cons (d_var (pv 0)) (a_cons (d_var (pv 1)) a_nil)))) (d_r d_non) (nomark _))))))

theorem sc_parting_after : FnScope ["one", "other"] ["one", "other"] (defScope (top 62)) := ⟨rfl, rfl, rfl, by decide +kernel, rfl, by decide +kernel, by decide +kernel⟩
theorem cal_parting_after {P : Program} {w : World} {K : PySem.W.Frag} {mg : Str → Option Value} {base : Heap} (g : Glob K mg) (F : ∃ f fd, FnP K "parting_after" (top 62) f fd ∧ mg "parting_after" = some (.ref f)) (c_check_both : CalP P w K mg base "check_both" 6 2 ["one", "other"] F_check_both) (c_check_like : CalP P w K mg base "check_like" 1 2 ["one", "other"] F_check_like) (c_first_parting : CalP P w K mg base "first_parting" 10 2 ["one", "other"] F_first_parting) : CalP P w K mg base "parting_after" 11 2 ["one", "other"] F_parting_after := by
  obtain ⟨f, fd, F, hm⟩ := F
  obtain ⟨f_check_both, fd_check_both, ok_check_both, mg_check_both, kp_check_both, bd_check_both⟩ := c_check_both
  obtain ⟨f_check_like, fd_check_like, ok_check_like, mg_check_like, kp_check_like, bd_check_like⟩ := c_check_like
  obtain ⟨f_first_parting, fd_first_parting, ok_first_parting, mg_first_parting, kp_first_parting, bd_first_parting⟩ := c_first_parting
  refine ⟨f, fd, ?_, hm, F.kp, F.bindsN fun _ _ _ _ _ _ us hl => match us, hl with | [_, _], _ => rfl⟩
  have sc := sc_parting_after
  refine fn_P (toFun F) sc rfl fun cdv A outer s H E hr => ?_
  have hu := units64 hr
  have hu5 := units65 hr
  have hu1 := units1 hr
  exact (s_cons (s_expr (d_call ok_check_both (hr.mono (by decide : 6 ≤ 10)) rfl mg_check_both kp_check_both bd_check_both (a_cons (d_var (pv 0)) (a_cons (d_var (pv 1)) a_nil))))
    (s_cons (s_expr (d_call ok_check_like (hr.mono (by decide : 1 ≤ 10)) rfl mg_check_like kp_check_like bd_check_like (a_cons (d_var (pv 0)) (a_cons (d_var (pv 1)) a_nil))))
    (s_one (s_ret (d_call ok_first_parting (hr.mono (by decide : 10 ≤ 10)) rfl mg_first_parting kp_first_parting bd_first_parting (a_cons (d_var (pv 0)) (a_cons (d_var (pv 1)) a_nil)))))))

theorem sc_gains : FnScope ["one", "other", "holder"] ["one", "other", "holder"] (defScope (top 63)) := ⟨rfl, rfl, rfl, by decide +kernel, rfl, by decide +kernel, by decide +kernel⟩
theorem cal_gains {P : Program} {w : World} {K : PySem.W.Frag} {mg : Str → Option Value} {base : Heap} (g : Glob K mg) (F : ∃ f fd, FnP K "gains" (top 63) f fd ∧ mg "gains" = some (.ref f)) (c_check_both : CalP P w K mg base "check_both" 6 2 ["one", "other"] F_check_both) (c_check_holder : CalP P w K mg base "check_holder" 2 2 ["ladder", "holder"] F_check_holder) (c_check_like : CalP P w K mg base "check_like" 1 2 ["one", "other"] F_check_like) (c_found_signs : CalP P w K mg base "found_signs" 9 3 ["one", "other", "holder"] F_found_signs) : CalP P w K mg base "gains" 10 3 ["one", "other", "holder"] F_gains := by
  obtain ⟨f, fd, F, hm⟩ := F
  obtain ⟨f_check_both, fd_check_both, ok_check_both, mg_check_both, kp_check_both, bd_check_both⟩ := c_check_both
  obtain ⟨f_check_holder, fd_check_holder, ok_check_holder, mg_check_holder, kp_check_holder, bd_check_holder⟩ := c_check_holder
  obtain ⟨f_check_like, fd_check_like, ok_check_like, mg_check_like, kp_check_like, bd_check_like⟩ := c_check_like
  obtain ⟨f_found_signs, fd_found_signs, ok_found_signs, mg_found_signs, kp_found_signs, bd_found_signs⟩ := c_found_signs
  refine ⟨f, fd, ?_, hm, F.kp, F.bindsN fun _ _ _ _ _ _ us hl => match us, hl with | [_, _, _], _ => rfl⟩
  have sc := sc_gains
  refine fn_P (toFun F) sc rfl fun cdv A outer s H E hr => ?_
  have hu := units64 hr
  have hu5 := units65 hr
  have hu1 := units1 hr
  exact (s_cons (s_expr (d_call ok_check_both (hr.mono (by decide : 6 ≤ 9)) rfl mg_check_both kp_check_both bd_check_both (a_cons (d_var (pv 0)) (a_cons (d_var (pv 1)) a_nil))))
    (s_cons (s_expr (d_call ok_check_holder (hr.mono (by decide : 2 ≤ 9)) rfl mg_check_holder kp_check_holder bd_check_holder (a_cons (d_var (pv 0)) (a_cons (d_var (pv 2)) a_nil))))
    (s_cons (s_expr (d_call ok_check_like (hr.mono (by decide : 1 ≤ 9)) rfl mg_check_like kp_check_like bd_check_like (a_cons (d_var (pv 0)) (a_cons (d_var (pv 1)) a_nil))))
    (s_one (s_ret (d_callTy ct_tuple rfl g.tuple_ (by decide +kernel) (r_cons (d_r (d_call ok_found_signs (hr.mono (by decide : 9 ≤ 9)) rfl mg_found_signs kp_found_signs bd_found_signs (a_cons (d_var (pv 0)) (a_cons (d_var (pv 1)) (a_cons (d_var (pv 2)) a_nil))))) r_nil)))))))

theorem sc_extreme : FnScope ["ladder", "holder", "start", "is_better", "rows", "amounts", "best", "place", "amount", "part", "row"] ["ladder", "holder", "start", "is_better"] (defScope (top 65)) := ⟨rfl, rfl, rfl, by decide +kernel, rfl, by decide +kernel, by decide +kernel⟩
theorem cal_extreme {P : Program} {w : World} {K : PySem.W.Frag} {mg : Str → Option Value} {base : Heap} (g : Glob K mg) (F : ∃ f fd, FnP K "extreme" (top 65) f fd ∧ mg "extreme" = some (.ref f)) (c_check_ladder : CalP P w K mg base "check_ladder" 5 1 ["value"] F_check_ladder) (c_check_holder : CalP P w K mg base "check_holder" 2 2 ["ladder", "holder"] F_check_holder) (c_check_amount : CalP P w K mg base "check_amount" 3 1 ["value"] F_check_amount) (c_found_bends : CalP P w K mg base "found_bends" 8 2 ["ladder", "holder"] F_found_bends) (c_in_order : CalP P w K mg base "in_order" 2 1 ["amounts"] F_in_order) (c_quotient : CalP P w K mg base "quotient" 3 2 ["one", "other"] F_quotient) (c_payment_at : CalP P w K mg base "payment_at" 5 2 ["rows", "amount"] F_payment_at) (c_is_less : CalP P w K mg base "is_less" 1 2 ["one", "other"] F_is_less) : CalF P w K mg base "extreme" 9 3 ["ladder", "holder", "start", "is_better"] 6 2 F_extreme := by
  obtain ⟨f, fd, F, hm⟩ := F
  obtain ⟨f_check_ladder, fd_check_ladder, ok_check_ladder, mg_check_ladder, kp_check_ladder, bd_check_ladder⟩ := c_check_ladder
  obtain ⟨f_check_holder, fd_check_holder, ok_check_holder, mg_check_holder, kp_check_holder, bd_check_holder⟩ := c_check_holder
  obtain ⟨f_check_amount, fd_check_amount, ok_check_amount, mg_check_amount, kp_check_amount, bd_check_amount⟩ := c_check_amount
  obtain ⟨f_found_bends, fd_found_bends, ok_found_bends, mg_found_bends, kp_found_bends, bd_found_bends⟩ := c_found_bends
  obtain ⟨f_in_order, fd_in_order, ok_in_order, mg_in_order, kp_in_order, bd_in_order⟩ := c_in_order
  obtain ⟨f_quotient, fd_quotient, ok_quotient, mg_quotient, kp_quotient, bd_quotient⟩ := c_quotient
  obtain ⟨f_payment_at, fd_payment_at, ok_payment_at, mg_payment_at, kp_payment_at, bd_payment_at⟩ := c_payment_at
  obtain ⟨f_is_less, fd_is_less, ok_is_less, mg_is_less, kp_is_less, bd_is_less⟩ := c_is_less
  intro fx fg hg
  refine ⟨f, fd, ?_, hm, F.kp, F.bindsN fun _ _ _ _ _ _ us hl => match us, hl with | [_, _, _, _], _ => rfl⟩
  have sc := sc_extreme
  refine fn_F (toFun F) sc rfl fun cdv A outer s H E hr => ?_
  have hu := units64 hr
  have hu5 := units65 hr
  have hu1 := units1 hr
  exact (s_cons (s_expr (d_call ok_check_ladder (hr.mono (by decide : 5 ≤ 8)) rfl mg_check_ladder kp_check_ladder bd_check_ladder (a_cons (d_var (pv 0)) a_nil)))
    (s_cons (s_expr (d_call ok_check_holder (hr.mono (by decide : 2 ≤ 8)) rfl mg_check_holder kp_check_holder bd_check_holder (a_cons (d_var (pv 0)) (a_cons (d_var (pv 1)) a_nil))))
    (s_cons (s_expr (d_call ok_check_amount (hr.mono (by decide : 3 ≤ 8)) rfl mg_check_amount kp_check_amount bd_check_amount (a_cons (d_var (pv 2)) a_nil)))
    (s_cons (s_if (c_cmp (op_eqQ hu) (d_r (d_ix ix_D (d_r (d_var (pv 2))) (d_r d_int) (fun _ _ => rfl))) (d_r d_int) (nomark _)) (s_one s_never) s_nil)
    (s_cons (s_asg (ps_set (i := 4) sc.nd rfl (Or.inl rfl) (d_call ok_found_bends (hr.mono (by decide : 8 ≤ 8)) rfl mg_found_bends kp_found_bends bd_found_bends (a_cons (d_var (pv 0)) (a_cons (d_var (pv 1)) a_nil)))))
    (s_cons (s_asg (ps_set (i := 5) sc.nd rfl (Or.inl rfl) (d_call ok_in_order (hr.mono (by decide : 2 ≤ 8)) rfl mg_in_order kp_in_order bd_in_order (a_cons (d_bin op_addD (d_r (d_frz (l_lst (a_cons (d_var (pv 2)) a_nil)))) (d_r (d_frz (l_comp (own := [("row", 10)]) rfl sc.nd (i_seq (d_var (pv 4))) (blkOk_by (own := [("row", 10)]) (N := ["ladder", "holder", "start", "is_better", "rows", "amounts", "best", "place", "amount", "part", "row"]) (sc := defScope (top 65)) (by decide +kernel)) (fun _ _ _ _ _ => (g_name (pg_name (i := 10) sc.nd rfl (Or.inl rfl)))) (fun _ _ _ _ _ => (t_one (c_val (d_call ok_is_less (hr.mono (by decide : 1 ≤ 8)) rfl mg_is_less kp_is_less bd_is_less (a_cons (d_var (pv 2)) (a_cons (d_ix ix_D (d_r (d_var (pv 10))) (d_r d_int) (fun _ _ => rfl)) a_nil)))))) (fun _ _ _ _ _ => (d_ix ix_D (d_r (d_var (pv 10))) (d_r d_int) (fun _ _ => rfl))) (by decide))))) a_nil))))
    (s_cons (s_parN (is := [6, 7]) (ps_asg (pe_tup (m_d d_non (m_d d_non m_nil))) (pg_tup rfl (pgs_cons (pg_name (i := 6) sc.nd rfl (Or.inl rfl)) (pgs_cons (pg_name (i := 7) sc.nd rfl (Or.inl rfl)) pgs_nil)))) rfl (by decide))
    (s_cons (s_for PassesOwn.never rfl (i_seq (d_var (pv 5))) (g_name (pg_name (i := 8) sc.nd rfl (Or.inl rfl))) (s_cons (s_asg (ps_set (i := 9) sc.nd rfl (Or.inl rfl) (d_call ok_quotient (hr.mono (by decide : 3 ≤ 8)) rfl mg_quotient kp_quotient bd_quotient (a_cons (d_call ok_payment_at (hr.mono (by decide : 5 ≤ 8)) rfl mg_payment_at kp_payment_at bd_payment_at (a_cons (d_var (pv 4)) (a_cons (d_var (pv 8)) a_nil))) (a_cons (d_var (pv 8)) a_nil)))))
    (s_one (s_if (PW.pt (c_or (c_cmp op_isQ (d_r (d_var (pv 6))) (d_r d_non) (nomark _)) (c_or1 (c_val (d_callF (i := 3) hg (hr.mono (by decide : 6 ≤ 8)) rfl (Or.inl rfl) (a_cons (d_var (pv 9)) (a_cons (d_var (pv 6)) a_nil))))))) (s_one (s_par2 (ps_par (i := 6) (j := 7) rfl sc.nd rfl rfl (by decide) rfl rfl (m_d (d_var (pv 9)) (m_d (d_var (pv 8)) m_nil)) rfl))) s_nil))))
    (s_cons (s_if (c_val (d_callF (i := 3) hg (hr.mono (by decide : 6 ≤ 8)) rfl (Or.inl rfl) (a_cons (d_ix ix_D (d_r (d_ix ix_D (d_r (d_var (pv 4))) (d_r (d_un un_negD (d_r d_int))) (fun _ _ => rfl))) (d_r d_int) (fun _ _ => rfl)) (a_cons (d_var (pv 6)) a_nil)))) (s_one (s_par2 (ps_par (i := 6) (j := 7) rfl sc.nd rfl rfl (by decide) rfl rfl (m_d (d_ix ix_D (d_r (d_ix ix_D (d_r (d_var (pv 4))) (d_r (d_un un_negD (d_r d_int))) (fun _ _ => rfl))) (d_r d_int) (fun _ _ => rfl)) (m_d d_non m_nil)) rfl))) s_nil)
    (s_one (s_ret (d_tup (a_cons (d_var (pv 6)) (a_cons (d_var (pv 7)) a_nil))))))))))))))

theorem sc_greatest_part : FnScope ["ladder", "holder", "start"] ["ladder", "holder", "start"] (defScope (top 66)) := ⟨rfl, rfl, rfl, by decide +kernel, rfl, by decide +kernel, by decide +kernel⟩
theorem lam_greatest_part {P : Program} {w : World} {K : PySem.W.Frag} {mg : Str → Option Value} {base : Heap} (g : Glob K mg) (F : ∃ fd, FnP K "greatest_part" (top 66) (He.fAd K ("greatest_part", none)) fd) (c_is_less : CalP P w K mg base "is_less" 1 2 ["one", "other"] F_is_less) : LamAll P w K mg base "greatest_part" 6 2 F_lam_greatest_part := by
  obtain ⟨fd, F⟩ := F
  obtain ⟨f_is_less, fd_is_less, ok_is_less, mg_is_less, kp_is_less, bd_is_less⟩ := c_is_less
  intro L hL
  rw [lamOf_eq (toFun F)] at hL
  obtain rfl := Option.some.inj hL
  refine ⟨["one", "other"], lam_ok (N := ["one", "other"]) (NdefX.nscope_by (by decide +kernel)) (fun pm ctv c us hl => match us, hl with | [_, _], _ => rfl) rfl fun A outer s H E f c hr => ?_⟩
  have hu := units64 hr
  have hu5 := units65 hr
  have hu1 := units1 hr
  exact (d_call ok_is_less (hr.mono (by decide : 1 ≤ 5)) rfl mg_is_less kp_is_less bd_is_less (a_cons (d_var (pv 1)) (a_cons (d_var (pv 0)) a_nil)))
theorem cal_greatest_part {P : Program} {w : World} {K : PySem.W.Frag} {mg : Str → Option Value} {base : Heap} (g : Glob K mg) (F : ∃ fd, FnP K "greatest_part" (top 66) (He.fAd K ("greatest_part", none)) fd ∧ mg "greatest_part" = some (.ref (He.fAd K ("greatest_part", none)))) (TB : LamX.TabB base mg (He.cT K ("greatest_part", none)).1 (He.cT K ("greatest_part", none)).2) (tA : TabAt K "greatest_part" (lamQ "greatest_part")) (c_extreme : CalF P w K mg base "extreme" 9 3 ["ladder", "holder", "start", "is_better"] 6 2 F_extreme) (c_is_less : CalP P w K mg base "is_less" 1 2 ["one", "other"] F_is_less) : CalP P w K mg base "greatest_part" 10 3 ["ladder", "holder", "start"] F_greatest_part := by
  obtain ⟨fd, F, hm⟩ := F
  have hl := lam_greatest_part (P := P) (w := w) (base := base) g ⟨fd, F⟩ c_is_less
  obtain ⟨f_extreme, fd_extreme, ok_extreme, mg_extreme, kp_extreme, bd_extreme⟩ := c_extreme "greatest_part" F_lam_greatest_part hl
  obtain ⟨f_is_less, fd_is_less, ok_is_less, mg_is_less, kp_is_less, bd_is_less⟩ := c_is_less
  refine ⟨_, fd, ?_, hm, F.kp, F.bindsN fun _ _ _ _ _ _ us hl => match us, hl with | [_, _, _], _ => rfl⟩
  have sc := sc_greatest_part
  have hL := lamOf_eq (toFun F)
  refine fn_Pc (toFun F) sc rfl fun A outer s H E hr => ?_
  have hu := units64 hr
  have hu5 := units65 hr
  have hu1 := units1 hr
  exact (s_one (s_ret (d_callX ok_extreme (hr.mono (by decide : 9 ≤ 9)) rfl mg_extreme kp_extreme bd_extreme (af_cons (d_var (pv 0)) (af_cons (d_var (pv 1)) (af_cons (d_var (pv 2)) (af_lam (e_lam hL TB rfl tA.hm tA.hu rfl (by decide +kernel) rfl))))))))

theorem sc_least_part : FnScope ["ladder", "holder", "start"] ["ladder", "holder", "start"] (defScope (top 67)) := ⟨rfl, rfl, rfl, by decide +kernel, rfl, by decide +kernel, by decide +kernel⟩
theorem lam_least_part {P : Program} {w : World} {K : PySem.W.Frag} {mg : Str → Option Value} {base : Heap} (g : Glob K mg) (F : ∃ fd, FnP K "least_part" (top 67) (He.fAd K ("least_part", none)) fd) (c_is_less : CalP P w K mg base "is_less" 1 2 ["one", "other"] F_is_less) : LamAll P w K mg base "least_part" 6 2 F_lam_least_part := by
  obtain ⟨fd, F⟩ := F
  obtain ⟨f_is_less, fd_is_less, ok_is_less, mg_is_less, kp_is_less, bd_is_less⟩ := c_is_less
  intro L hL
  rw [lamOf_eq (toFun F)] at hL
  obtain rfl := Option.some.inj hL
  refine ⟨["one", "other"], lam_ok (N := ["one", "other"]) (NdefX.nscope_by (by decide +kernel)) (fun pm ctv c us hl => match us, hl with | [_, _], _ => rfl) rfl fun A outer s H E f c hr => ?_⟩
  have hu := units64 hr
  have hu5 := units65 hr
  have hu1 := units1 hr
  exact (d_call ok_is_less (hr.mono (by decide : 1 ≤ 5)) rfl mg_is_less kp_is_less bd_is_less (a_cons (d_var (pv 0)) (a_cons (d_var (pv 1)) a_nil)))
theorem cal_least_part {P : Program} {w : World} {K : PySem.W.Frag} {mg : Str → Option Value} {base : Heap} (g : Glob K mg) (F : ∃ fd, FnP K "least_part" (top 67) (He.fAd K ("least_part", none)) fd ∧ mg "least_part" = some (.ref (He.fAd K ("least_part", none)))) (TB : LamX.TabB base mg (He.cT K ("least_part", none)).1 (He.cT K ("least_part", none)).2) (tA : TabAt K "least_part" (lamQ "least_part")) (c_extreme : CalF P w K mg base "extreme" 9 3 ["ladder", "holder", "start", "is_better"] 6 2 F_extreme) (c_is_less : CalP P w K mg base "is_less" 1 2 ["one", "other"] F_is_less) : CalP P w K mg base "least_part" 10 3 ["ladder", "holder", "start"] F_least_part := by
  obtain ⟨fd, F, hm⟩ := F
  have hl := lam_least_part (P := P) (w := w) (base := base) g ⟨fd, F⟩ c_is_less
  obtain ⟨f_extreme, fd_extreme, ok_extreme, mg_extreme, kp_extreme, bd_extreme⟩ := c_extreme "least_part" F_lam_least_part hl
  obtain ⟨f_is_less, fd_is_less, ok_is_less, mg_is_less, kp_is_less, bd_is_less⟩ := c_is_less
  refine ⟨_, fd, ?_, hm, F.kp, F.bindsN fun _ _ _ _ _ _ us hl => match us, hl with | [_, _, _], _ => rfl⟩
  have sc := sc_least_part
  have hL := lamOf_eq (toFun F)
  refine fn_Pc (toFun F) sc rfl fun A outer s H E hr => ?_
  have hu := units64 hr
  have hu5 := units65 hr
  have hu1 := units1 hr
  exact (s_one (s_ret (d_callX ok_extreme (hr.mono (by decide : 9 ≤ 9)) rfl mg_extreme kp_extreme bd_extreme (af_cons (d_var (pv 0)) (af_cons (d_var (pv 1)) (af_cons (d_var (pv 2)) (af_lam (e_lam hL TB rfl tA.hm tA.hu rfl (by decide +kernel) rfl))))))))

theorem sc_check_simple : FnScope ["ladder", "rung"] ["ladder"] (defScope (top 69)) := ⟨rfl, rfl, rfl, by decide +kernel, rfl, by decide +kernel, by decide +kernel⟩
theorem cal_check_simple {P : Program} {w : World} {K : PySem.W.Frag} {mg : Str → Option Value} {base : Heap} (g : Glob K mg) (F : ∃ f fd, FnP K "check_simple" (top 69) f fd ∧ mg "check_simple" = some (.ref f)) (c_check_ladder : CalP P w K mg base "check_ladder" 5 1 ["value"] F_check_ladder) : CalP P w K mg base "check_simple" 6 1 ["ladder"] F_check_simple := by
  obtain ⟨f, fd, F, hm⟩ := F
  obtain ⟨f_check_ladder, fd_check_ladder, ok_check_ladder, mg_check_ladder, kp_check_ladder, bd_check_ladder⟩ := c_check_ladder
  refine ⟨f, fd, ?_, hm, F.kp, F.bindsN fun _ _ _ _ _ _ us hl => match us, hl with | [_], _ => rfl⟩
  have sc := sc_check_simple
  refine fn_P (toFun F) sc rfl fun cdv A outer s H E hr => ?_
  have hu := units64 hr
  have hu5 := units65 hr
  have hu1 := units1 hr
  exact (s_cons (s_expr (d_call ok_check_ladder (hr.mono (by decide : 5 ≤ 5)) rfl mg_check_ladder kp_check_ladder bd_check_ladder (a_cons (d_var (pv 0)) a_nil)))
    (s_one (s_if (c_val (d_callB (cb_any rfl) rfl g.any_ (by decide +kernel) (r_cons (d_r (d_frz (l_comp (own := [("rung", 1)]) rfl sc.nd (i_seq (d_slice (d_r (d_ix ix_D (d_r (d_var (pv 0))) (d_r d_int) (fun _ _ => rfl))) o_none (o_some (d_un un_negD (d_r d_int))))) (blkOk_by (own := [("rung", 1)]) (N := ["ladder", "rung"]) (sc := defScope (top 69)) (by decide +kernel)) (fun _ _ _ _ _ => (g_name (pg_name (i := 1) sc.nd rfl (Or.inl rfl)))) (fun _ _ _ _ _ => t_yes) (fun _ _ _ _ _ => (d_cmp (op_neQ hu) (d_r (d_ix ix_D (d_r (d_var (pv 1))) (d_r d_int) (fun _ _ => rfl))) (d_r d_str) (nomark _))) (by decide)))) r_nil))) (s_one s_never) s_nil)))

theorem sc_check_options : FnScope ["ladder", "options", "some", "rung", "holder", "one", "weight"] ["ladder", "options"] (defScope (top 70)) := ⟨rfl, rfl, rfl, by decide +kernel, rfl, by decide +kernel, by decide +kernel⟩
theorem cal_check_options {P : Program} {w : World} {K : PySem.W.Frag} {mg : Str → Option Value} {base : Heap} (g : Glob K mg) (F : ∃ f fd, FnP K "check_options" (top 70) f fd ∧ mg "check_options" = some (.ref f)) (c_are_pairs : CalP P w K mg base "are_pairs" 2 4 ["holders", "value", "most", "least"] F_are_pairs) : CalP P w K mg base "check_options" 3 2 ["ladder", "options"] F_check_options := by
  obtain ⟨f, fd, F, hm⟩ := F
  obtain ⟨f_are_pairs, fd_are_pairs, ok_are_pairs, mg_are_pairs, kp_are_pairs, bd_are_pairs⟩ := c_are_pairs
  refine ⟨f, fd, ?_, hm, F.kp, F.bindsN fun _ _ _ _ _ _ us hl => match us, hl with | [_, _], _ => rfl⟩
  have sc := sc_check_options
  refine fn_P (toFun F) sc rfl fun cdv A outer s H E hr => ?_
  have hu := units64 hr
  have hu5 := units65 hr
  have hu1 := units1 hr
  exact (s_cons (s_if (c_not (c_val (d_call ok_are_pairs (hr.mono (by decide : 2 ≤ 2)) rfl mg_are_pairs kp_are_pairs bd_are_pairs (a_cons (d_ix ix_D (d_r (d_var (pv 0))) (d_r d_int) (fun _ _ => rfl)) (a_cons (d_var (pv 1)) (a_cons d_int (a_cons d_int a_nil))))))) (s_one s_never) s_nil)
    (s_cons (s_asg (ps_set (i := 2) sc.nd rfl (Or.inr rfl) (d_frz (l_comp2 (own := [("rung", 3), ("holder", 4), ("one", 5)]) (vs1 := [4, 5]) rfl sc.nd (i_seq (d_slice (d_r (d_ix ix_D (d_r (d_var (pv 0))) (d_r d_int) (fun _ _ => rfl))) o_none (o_some (d_un un_negD (d_r d_int))))) (blkOk_by (own := [("rung", 3), ("holder", 4), ("one", 5)]) (N := ["ladder", "options", "some", "rung", "holder", "one", "weight"]) (sc := defScope (top 70)) (by decide +kernel)) (by decide) (fun _ _ _ _ _ => (g_name (pg_name (i := 3) sc.nd rfl (Or.inl rfl)))) (fun _ _ _ _ _ => (i_seq (d_ix ix_D (d_r (d_var (pv 3))) (d_r d_int) (fun _ _ => rfl)))) (fun _ _ _ _ _ => (g_tup rfl (gs_cons (g_name (pg_name (i := 4) sc.nd rfl (Or.inl rfl))) (gs_cons (g_name (pg_name (i := 5) sc.nd rfl (Or.inl rfl))) gs_nil)))) (fun _ _ _ _ _ => (d_var (pv 4))) (by decide) (by decide)))))
    (s_one (s_if (c_val (d_callB (cb_any rfl) rfl g.any_ (by decide +kernel) (r_cons (d_r (d_frz (l_comp (own := [("holder", 4), ("weight", 6)]) rfl sc.nd (i_seq (d_var (pv 1))) (blkOk_by (own := [("holder", 4), ("weight", 6)]) (N := ["ladder", "options", "some", "rung", "holder", "one", "weight"]) (sc := defScope (top 70)) (by decide +kernel)) (fun _ _ _ _ _ => (g_tup rfl (gs_cons (g_name (pg_name (i := 4) sc.nd rfl (Or.inl rfl))) (gs_cons (g_name (pg_name (i := 6) sc.nd rfl (Or.inl rfl))) gs_nil)))) (fun _ _ _ _ _ => t_yes) (fun _ _ _ _ _ => (d_cmp (op_notInQ hu5) (d_r (d_var (pv 4))) (d_r (d_var (pv 2))) (by rfl))) (by decide)))) r_nil))) (s_one s_never) s_nil))))

theorem sc_check_choice : FnScope ["options", "choice", "some", "holder", "weight", "k"] ["options", "choice"] (defScope (top 71)) := ⟨rfl, rfl, rfl, by decide +kernel, rfl, by decide +kernel, by decide +kernel⟩
theorem cal_check_choice {P : Program} {w : World} {K : PySem.W.Frag} {mg : Str → Option Value} {base : Heap} (g : Glob K mg) (F : ∃ f fd, FnP K "check_choice" (top 71) f fd ∧ mg "check_choice" = some (.ref f)) (c_is_between : CalP P w K mg base "is_between" 1 3 ["value", "low", "high"] F_is_between) : CalP P w K mg base "check_choice" 2 2 ["options", "choice"] F_check_choice := by
  obtain ⟨f, fd, F, hm⟩ := F
  obtain ⟨f_is_between, fd_is_between, ok_is_between, mg_is_between, kp_is_between, bd_is_between⟩ := c_is_between
  refine ⟨f, fd, ?_, hm, F.kp, F.bindsN fun _ _ _ _ _ _ us hl => match us, hl with | [_, _], _ => rfl⟩
  have sc := sc_check_choice
  refine fn_P (toFun F) sc rfl fun cdv A outer s H E hr => ?_
  have hu := units64 hr
  have hu5 := units65 hr
  have hu1 := units1 hr
  exact (s_cons (s_asg (ps_set (i := 2) sc.nd rfl (Or.inr rfl) (d_frz (l_comp (own := [("holder", 3), ("weight", 4)]) rfl sc.nd (i_seq (d_var (pv 0))) (blkOk_by (own := [("holder", 3), ("weight", 4)]) (N := ["options", "choice", "some", "holder", "weight", "k"]) (sc := defScope (top 71)) (by decide +kernel)) (fun _ _ _ _ _ => (g_tup rfl (gs_cons (g_name (pg_name (i := 3) sc.nd rfl (Or.inl rfl))) (gs_cons (g_name (pg_name (i := 4) sc.nd rfl (Or.inl rfl))) gs_nil)))) (fun _ _ _ _ _ => t_yes) (fun _ _ _ _ _ => (d_var (pv 3))) (by decide)))))
    (s_cons (s_if (PW.pt (c_or (c_not (c_val (d_isi rfl g.isinstance rfl g.tuple_ (by decide +kernel) (d_r (d_var (pv 1)))))) (c_or1 (c_not (c_val (d_callB (cb_all rfl) rfl g.all_ (by decide +kernel) (r_cons (d_r (d_frz (l_comp (own := [("holder", 3)]) rfl sc.nd (i_seq (d_var (pv 1))) (blkOk_by (own := [("holder", 3)]) (N := ["options", "choice", "some", "holder", "weight", "k"]) (sc := defScope (top 71)) (by decide +kernel)) (fun _ _ _ _ _ => (g_name (pg_name (i := 3) sc.nd rfl (Or.inl rfl)))) (fun _ _ _ _ _ => t_yes) (fun _ _ _ _ _ => (d_and (d_call ok_is_between (hr.mono (by decide : 1 ≤ 1)) rfl mg_is_between kp_is_between bd_is_between (a_cons (d_var (pv 3)) (a_cons d_int (a_cons d_int a_nil)))) (d_one (d_cmp (op_inQ hu5) (d_r (d_var (pv 3))) (d_r (d_var (pv 2))) (by rfl))))) (by decide)))) r_nil))))))) (s_one s_never) s_nil)
    (s_one (s_if (c_not (c_val (d_callB (cb_all rfl) rfl g.all_ (by decide +kernel) (r_cons (d_r (d_frz (l_comp (own := [("k", 5)]) rfl sc.nd (i_rng rfl g.range_ (a_cons (d_bin op_subD (d_r (d_callB cb_len rfl g.len_ (by decide +kernel) (r_cons (d_r (d_var (pv 1))) r_nil))) (d_r d_int)) a_nil)) (blkOk_by (own := [("k", 5)]) (N := ["options", "choice", "some", "holder", "weight", "k"]) (sc := defScope (top 71)) (by decide +kernel)) (fun _ _ _ _ _ => (g_name (pg_name (i := 5) sc.nd rfl (Or.inl rfl)))) (fun _ _ _ _ _ => t_yes) (fun _ _ _ _ _ => (d_cmp op_ltD (d_r (d_ix ix_D (d_r (d_var (pv 1))) (d_r (d_var (pv 5))) (fun _ _ => rfl))) (d_r (d_ix ix_D (d_r (d_var (pv 1))) (d_r (d_bin op_addD (d_r (d_var (pv 5))) (d_r d_int))) (fun _ _ => rfl))) (nomark _))) (by decide)))) r_nil)))) (s_one s_never) s_nil))))

theorem sc_with_choice : FnScope ["ladder", "options", "choice", "rungs", "name", "sums", "weights", "caps", "found", "holder", "weight", "rest", "pair"] ["ladder", "options", "choice"] (defScope (top 72)) := ⟨rfl, rfl, rfl, by decide +kernel, rfl, by decide +kernel, by decide +kernel⟩
theorem cal_with_choice {P : Program} {w : World} {K : PySem.W.Frag} {mg : Str → Option Value} {base : Heap} (g : Glob K mg) (F : ∃ f fd, FnP K "with_choice" (top 72) f fd ∧ mg "with_choice" = some (.ref f))  : CalP P w K mg base "with_choice" 1 3 ["ladder", "options", "choice"] F_with_choice := by
  obtain ⟨f, fd, F, hm⟩ := F
  refine ⟨f, fd, ?_, hm, F.kp, F.bindsN fun _ _ _ _ _ _ us hl => match us, hl with | [_, _, _], _ => rfl⟩
  have sc := sc_with_choice
  refine fn_P (toFun F) sc rfl fun cdv A outer s H E hr => ?_
  have hu := units64 hr
  have hu5 := units65 hr
  have hu1 := units1 hr
  exact (s_cons (s_asg (ps_set (i := 3) sc.nd rfl (Or.inl rfl) (d_tup a_nil)))
    (s_cons (s_for PassesOwn.never rfl (i_seq (d_slice (d_r (d_ix ix_D (d_r (d_var (pv 0))) (d_r d_int) (fun _ _ => rfl))) o_none (o_some (d_un un_negD (d_r d_int))))) (g_tup rfl (gs_cons (g_name (pg_name (i := 4) sc.nd rfl (Or.inl rfl))) (gs_cons (g_name (pg_name (i := 5) sc.nd rfl (Or.inl rfl))) gs_nil))) (s_cons (s_asg (ps_set (i := 11) sc.nd rfl (Or.inl rfl) (d_callTy ct_tuple rfl g.tuple_ (by decide +kernel) (r_cons (d_r (d_frz (l_comp (own := [("pair", 12)]) rfl sc.nd (i_seq (d_var (pv 5))) (blkOk_by (own := [("pair", 12)]) (N := ["ladder", "options", "choice", "rungs", "name", "sums", "weights", "caps", "found", "holder", "weight", "rest", "pair"]) (sc := defScope (top 72)) (by decide +kernel)) (fun _ _ _ _ _ => (g_name (pg_name (i := 12) sc.nd rfl (Or.inl rfl)))) (fun _ _ _ _ _ => (t_one (c_cmp (op_notInQ hu5) (d_r (d_ix ix_D (d_r (d_var (pv 12))) (d_r d_int) (fun _ _ => rfl))) (d_r (d_var (pv 2))) (by rfl)))) (fun _ _ _ _ _ => (d_var (pv 12))) (by decide)))) r_nil))))
    (s_one (s_asg (ps_set (i := 3) sc.nd rfl (Or.inl rfl) (d_bin op_addD (d_r (d_var (pv 3))) (d_r (d_if (c_cmp (op_neQ hu) (d_r (d_var (pv 11))) (d_r (d_tup a_nil)) (nomark _)) (d_tup (a_cons (d_tup (a_cons (d_var (pv 4)) (a_cons (d_var (pv 11)) a_nil))) a_nil)) (d_tup a_nil)))))))))
    (s_cons (s_asgG (ps_asg (d_ix ix_D (d_r (d_ix ix_D (d_r (d_var (pv 0))) (d_r d_int) (fun _ _ => rfl))) (d_r (d_un un_negD (d_r d_int))) (fun _ _ => rfl)) (g_tup rfl (gs_cons (g_name (pg_name (i := 4) sc.nd rfl (Or.inl rfl))) (gs_cons (g_name (pg_name (i := 6) sc.nd rfl (Or.inl rfl))) (gs_cons (g_name (pg_name (i := 7) sc.nd rfl (Or.inl rfl))) gs_nil))))))
    (s_cons (s_dk (ps_set (i := 8) sc.nd rfl (Or.inr rfl) (k_dictT rfl rfl g.dict_ (by decide +kernel) (d_var (pv 6)))))
    (s_cons (s_for PassesOwn.never rfl (i_seq (d_var (pv 1))) (g_tup rfl (gs_cons (g_name (pg_name (i := 9) sc.nd rfl (Or.inl rfl))) (gs_cons (g_name (pg_name (i := 10) sc.nd rfl (Or.inl rfl))) gs_nil))) (s_one (s_if (c_cmp (op_inQ hu5) (d_r (d_var (pv 9))) (d_r (d_var (pv 2))) (by rfl)) (s_one (s_dput (ps_dput hu1 (pv 8) (d_var (pv 9)) (d_bin op_addD (d_r (d_dget2 hu1 (pv 8) (d_var (pv 9)) d_int ⟨rfl, rfl, rfl, rfl⟩)) (d_r (d_var (pv 10)))) rfl))) s_nil)))
    (s_cons (s_if (c_val (d_callB (cb_any rfl) rfl g.any_ (by decide +kernel) (r_cons (d_r (d_frz (l_lock 8 (l_comp (own := [("holder", 9)]) rfl sc.nd (i_dk (pv 8)) (blkOk_by (own := [("holder", 9)]) (N := ["ladder", "options", "choice", "rungs", "name", "sums", "weights", "caps", "found", "holder", "weight", "rest", "pair"]) (sc := defScope (top 72)) (by decide +kernel)) (fun _ _ _ _ _ => (g_name (pg_name (i := 9) sc.nd rfl (Or.inl rfl)))) (fun _ _ _ _ _ => t_yes) (fun _ _ _ _ _ => (d_cmp op_gtD (d_r (d_dget hu1 (pv 8) (d_var (pv 9)) (fun _ _ => rfl))) (d_r d_int) (nomark _))) (by decide))))) r_nil))) (s_one s_never) s_nil)
    (s_one (s_ret (d_tup (a_cons (d_ix ix_D (d_r (d_var (pv 0))) (d_r d_int) (fun _ _ => rfl)) (a_cons (d_bin op_addD (d_r (d_var (pv 3))) (d_r (d_tup (a_cons (d_tup (a_cons (d_var (pv 4)) (a_cons (d_callTy ct_tuple rfl g.tuple_ (by decide +kernel) (r_cons (d_r (d_frz (l_comp (own := [("holder", 9)]) rfl sc.nd (i_seq (d_frz (l_sortDk rfl rfl g.sorted_ (by decide +kernel) (pv 8)))) (blkOk_by (own := [("holder", 9)]) (N := ["ladder", "options", "choice", "rungs", "name", "sums", "weights", "caps", "found", "holder", "weight", "rest", "pair"]) (sc := defScope (top 72)) (by decide +kernel)) (fun _ _ _ _ _ => (g_name (pg_name (i := 9) sc.nd rfl (Or.inl rfl)))) (fun _ _ _ _ _ => t_yes) (fun _ _ _ _ _ => (d_tup (a_cons (d_var (pv 9)) (a_cons (d_dget hu1 (pv 8) (d_var (pv 9)) (fun _ _ => rfl)) a_nil)))) (by decide)))) r_nil)) (a_cons (d_var (pv 7)) a_nil)))) a_nil)))) a_nil)))))))))))

theorem sc_changed : FnScope ["ladder", "options", "choice"] ["ladder", "options", "choice"] (defScope (top 73)) := ⟨rfl, rfl, rfl, by decide +kernel, rfl, by decide +kernel, by decide +kernel⟩
theorem cal_changed {P : Program} {w : World} {K : PySem.W.Frag} {mg : Str → Option Value} {base : Heap} (g : Glob K mg) (F : ∃ f fd, FnP K "changed" (top 73) f fd ∧ mg "changed" = some (.ref f)) (c_check_simple : CalP P w K mg base "check_simple" 6 1 ["ladder"] F_check_simple) (c_check_options : CalP P w K mg base "check_options" 3 2 ["ladder", "options"] F_check_options) (c_check_choice : CalP P w K mg base "check_choice" 2 2 ["options", "choice"] F_check_choice) (c_with_choice : CalP P w K mg base "with_choice" 1 3 ["ladder", "options", "choice"] F_with_choice) : CalP P w K mg base "changed" 7 3 ["ladder", "options", "choice"] F_changed := by
  obtain ⟨f, fd, F, hm⟩ := F
  obtain ⟨f_check_simple, fd_check_simple, ok_check_simple, mg_check_simple, kp_check_simple, bd_check_simple⟩ := c_check_simple
  obtain ⟨f_check_options, fd_check_options, ok_check_options, mg_check_options, kp_check_options, bd_check_options⟩ := c_check_options
  obtain ⟨f_check_choice, fd_check_choice, ok_check_choice, mg_check_choice, kp_check_choice, bd_check_choice⟩ := c_check_choice
  obtain ⟨f_with_choice, fd_with_choice, ok_with_choice, mg_with_choice, kp_with_choice, bd_with_choice⟩ := c_with_choice
  refine ⟨f, fd, ?_, hm, F.kp, F.bindsN fun _ _ _ _ _ _ us hl => match us, hl with | [_, _, _], _ => rfl⟩
  have sc := sc_changed
  refine fn_P (toFun F) sc rfl fun cdv A outer s H E hr => ?_
  have hu := units64 hr
  have hu5 := units65 hr
  have hu1 := units1 hr
  exact (s_cons (s_expr (d_call ok_check_simple (hr.mono (by decide : 6 ≤ 6)) rfl mg_check_simple kp_check_simple bd_check_simple (a_cons (d_var (pv 0)) a_nil)))
    (s_cons (s_expr (d_call ok_check_options (hr.mono (by decide : 3 ≤ 6)) rfl mg_check_options kp_check_options bd_check_options (a_cons (d_var (pv 0)) (a_cons (d_var (pv 1)) a_nil))))
    (s_cons (s_expr (d_call ok_check_choice (hr.mono (by decide : 2 ≤ 6)) rfl mg_check_choice kp_check_choice bd_check_choice (a_cons (d_var (pv 1)) (a_cons (d_var (pv 2)) a_nil))))
    (s_one (s_ret (d_call ok_with_choice (hr.mono (by decide : 1 ≤ 6)) rfl mg_with_choice kp_with_choice bd_with_choice (a_cons (d_var (pv 0)) (a_cons (d_var (pv 1)) (a_cons (d_var (pv 2)) a_nil)))))))))

theorem sc_choices_of : FnScope ["options", "found", "holder", "weight", "row"] ["options"] (defScope (top 74)) := ⟨rfl, rfl, rfl, by decide +kernel, rfl, by decide +kernel, by decide +kernel⟩
theorem cal_choices_of {P : Program} {w : World} {K : PySem.W.Frag} {mg : Str → Option Value} {base : Heap} (g : Glob K mg) (F : ∃ f fd, FnP K "choices_of" (top 74) f fd ∧ mg "choices_of" = some (.ref f))  : CalP P w K mg base "choices_of" 1 1 ["options"] F_choices_of := by
  obtain ⟨f, fd, F, hm⟩ := F
  refine ⟨f, fd, ?_, hm, F.kp, F.bindsN fun _ _ _ _ _ _ us hl => match us, hl with | [_], _ => rfl⟩
  have sc := sc_choices_of
  refine fn_P (toFun F) sc rfl fun cdv A outer s H E hr => ?_
  have hu := units64 hr
  have hu5 := units65 hr
  have hu1 := units1 hr
  exact (s_cons (s_asg (ps_set (i := 1) sc.nd rfl (Or.inl rfl) (d_frz (l_lst (a_cons (d_tup a_nil) a_nil)))))
    (s_cons (s_for PassesOwn.never rfl (i_seq (d_var (pv 0))) (g_tup rfl (gs_cons (g_name (pg_name (i := 2) sc.nd rfl (Or.inr rfl))) (gs_cons (g_name (pg_name (i := 3) sc.nd rfl (Or.inl rfl))) gs_nil))) (s_one (s_asg (ps_set (i := 1) sc.nd rfl (Or.inl rfl) (d_bin op_addD (d_r (d_var (pv 1))) (d_r (d_frz (l_comp (own := [("row", 4)]) rfl sc.nd (i_seq (d_var (pv 1))) (blkOk_by (own := [("row", 4)]) (N := ["options", "found", "holder", "weight", "row"]) (sc := defScope (top 74)) (by decide +kernel)) (fun _ _ _ _ _ => (g_name (pg_name (i := 4) sc.nd rfl (Or.inl rfl)))) (fun _ _ _ _ _ => t_yes) (fun _ _ _ _ _ => (d_bin op_addD (d_r (d_var (pv 4))) (d_r (d_tup (a_cons (d_var (pv 2)) a_nil))))) (by decide)))))))))
    (s_one (s_ret (d_frz (l_comp (own := [("row", 4)]) rfl sc.nd (i_seq (d_frz (l_callB (cb_sortedG hu5) rfl g.sorted_ (by decide +kernel) (r_cons (d_r (d_frz (l_comp (own := [("row", 4)]) rfl sc.nd (i_seq (d_var (pv 1))) (blkOk_by (own := [("row", 4)]) (N := ["options", "found", "holder", "weight", "row"]) (sc := defScope (top 74)) (by decide +kernel)) (fun _ _ _ _ _ => (g_name (pg_name (i := 4) sc.nd rfl (Or.inl rfl)))) (fun _ _ _ _ _ => t_yes) (fun _ _ _ _ _ => (d_tup (a_cons (d_callB cb_len rfl g.len_ (by decide +kernel) (r_cons (d_r (d_var (pv 4))) r_nil)) (a_cons (d_var (pv 4)) a_nil)))) (by decide)))) r_nil)))) (blkOk_by (own := [("row", 4)]) (N := ["options", "found", "holder", "weight", "row"]) (sc := defScope (top 74)) (by decide +kernel)) (fun _ _ _ _ _ => (g_name (pg_name (i := 4) sc.nd rfl (Or.inl rfl)))) (fun _ _ _ _ _ => t_yes) (fun _ _ _ _ _ => (d_ix ix_D (d_r (d_var (pv 4))) (d_r d_int) (fun _ _ => rfl))) (by decide)))))))

theorem sc_is_stable : FnScope ["table", "options", "choice", "holder", "weight", "other", "one"] ["table", "options", "choice"] (defScope (top 75)) := ⟨rfl, rfl, rfl, by decide +kernel, rfl, by decide +kernel, by decide +kernel⟩
theorem cal_is_stable {P : Program} {w : World} {K : PySem.W.Frag} {mg : Str → Option Value} {base : Heap} (g : Glob K mg) (F : ∃ f fd, FnP K "is_stable" (top 75) f fd ∧ mg "is_stable" = some (.ref f)) (c_is_less : CalP P w K mg base "is_less" 1 2 ["one", "other"] F_is_less) : CalP P w K mg base "is_stable" 2 3 ["table", "options", "choice"] F_is_stable := by
  obtain ⟨f, fd, F, hm⟩ := F
  obtain ⟨f_is_less, fd_is_less, ok_is_less, mg_is_less, kp_is_less, bd_is_less⟩ := c_is_less
  refine ⟨f, fd, ?_, hm, F.kp, F.bindsN fun _ _ _ _ _ _ us hl => match us, hl with | [_, _, _], _ => rfl⟩
  have sc := sc_is_stable
  refine fn_P (toFun F) sc rfl fun cdv A outer s H E hr => ?_
  have hu := units64 hr
  have hu5 := units65 hr
  have hu1 := units1 hr
  exact (s_cons (s_for PassesOwn.never rfl (i_seq (d_var (pv 1))) (g_tup rfl (gs_cons (g_name (pg_name (i := 3) sc.nd rfl (Or.inr rfl))) (gs_cons (g_name (pg_name (i := 4) sc.nd rfl (Or.inl rfl))) gs_nil))) (s_cons (s_if (c_cmp (op_inQ hu5) (d_r (d_var (pv 3))) (d_r (d_var (pv 2))) (by rfl)) (s_one (s_asg (ps_set (i := 5) sc.nd rfl (Or.inl rfl) (d_callTy ct_tuple rfl g.tuple_ (by decide +kernel) (r_cons (d_r (d_frz (l_comp (own := [("one", 6)]) rfl sc.nd (i_seq (d_var (pv 2))) (blkOk_by (own := [("one", 6)]) (N := ["table", "options", "choice", "holder", "weight", "other", "one"]) (sc := defScope (top 75)) (by decide +kernel)) (fun _ _ _ _ _ => (g_name (pg_name (i := 6) sc.nd rfl (Or.inl rfl)))) (fun _ _ _ _ _ => (t_one (c_cmp (op_neQ hu) (d_r (d_var (pv 6))) (d_r (d_var (pv 3))) (nomark _)))) (fun _ _ _ _ _ => (d_var (pv 6))) (by decide)))) r_nil))))) (s_one (s_asg (ps_set (i := 5) sc.nd rfl (Or.inl rfl) (d_callTy ct_tuple rfl g.tuple_ (by decide +kernel) (r_cons (d_r (d_frz (l_callB cb_sortedT rfl g.sorted_ (by decide +kernel) (r_cons (d_r (d_bin op_addD (d_r (d_var (pv 2))) (d_r (d_tup (a_cons (d_var (pv 3)) a_nil))))) r_nil)))) r_nil))))))
    (s_one (s_if (c_val (d_call ok_is_less (hr.mono (by decide : 1 ≤ 1)) rfl mg_is_less kp_is_less bd_is_less (a_cons (d_ix ix_D (d_r (d_tget hu1 (d_var (pv 0)) (d_var (pv 2)) (fun _ _ => rfl))) (d_r (d_var (pv 3))) (fun _ _ => rfl)) (a_cons (d_ix ix_D (d_r (d_tget hu1 (d_var (pv 0)) (d_var (pv 5)) (fun _ _ => rfl))) (d_r (d_var (pv 3))) (fun _ _ => rfl)) a_nil)))) (s_one (s_ret d_bl)) s_nil))))
    (s_one (s_ret d_bl)))

theorem sc_payments_with : FnScope ["ladder", "options", "amount", "found", "choice"] ["ladder", "options", "amount"] (defScope (top 76)) := ⟨rfl, rfl, rfl, by decide +kernel, rfl, by decide +kernel, by decide +kernel⟩
theorem cal_payments_with {P : Program} {w : World} {K : PySem.W.Frag} {mg : Str → Option Value} {base : Heap} (g : Glob K mg) (F : ∃ f fd, FnP K "payments_with" (top 76) f fd ∧ mg "payments_with" = some (.ref f)) (c_choices_of : CalP P w K mg base "choices_of" 1 1 ["options"] F_choices_of) (c_all_payments : CalP P w K mg base "all_payments" 9 2 ["ladder", "amount"] F_all_payments) (c_with_choice : CalP P w K mg base "with_choice" 1 3 ["ladder", "options", "choice"] F_with_choice) : CalP P w K mg base "payments_with" 10 3 ["ladder", "options", "amount"] F_payments_with := by
  obtain ⟨f, fd, F, hm⟩ := F
  obtain ⟨f_choices_of, fd_choices_of, ok_choices_of, mg_choices_of, kp_choices_of, bd_choices_of⟩ := c_choices_of
  obtain ⟨f_all_payments, fd_all_payments, ok_all_payments, mg_all_payments, kp_all_payments, bd_all_payments⟩ := c_all_payments
  obtain ⟨f_with_choice, fd_with_choice, ok_with_choice, mg_with_choice, kp_with_choice, bd_with_choice⟩ := c_with_choice
  refine ⟨f, fd, ?_, hm, F.kp, F.bindsN fun _ _ _ _ _ _ us hl => match us, hl with | [_, _, _], _ => rfl⟩
  have sc := sc_payments_with
  refine fn_P (toFun F) sc rfl fun cdv A outer s H E hr => ?_
  have hu := units64 hr
  have hu5 := units65 hr
  have hu1 := units1 hr
  exact (s_cons (s_tbN (ps_set (i := 3) sc.nd rfl (Or.inl rfl) pe_tbN))
    (s_cons (s_for PassesOwn.never rfl (i_seq (d_call ok_choices_of (hr.mono (by decide : 1 ≤ 9)) rfl mg_choices_of kp_choices_of bd_choices_of (a_cons (d_var (pv 1)) a_nil))) (g_name (pg_name (i := 4) sc.nd rfl (Or.inl rfl))) (s_one (s_tput (ps_tput hu1 (pv 3) (d_var (pv 4)) (d_call ok_all_payments (hr.mono (by decide : 9 ≤ 9)) rfl mg_all_payments kp_all_payments bd_all_payments (a_cons (d_call ok_with_choice (hr.mono (by decide : 1 ≤ 9)) rfl mg_with_choice kp_with_choice bd_with_choice (a_cons (d_var (pv 0)) (a_cons (d_var (pv 1)) (a_cons (d_var (pv 4)) a_nil)))) (a_cons (d_var (pv 2)) a_nil)))))))
    (s_one (s_frzT 3 (s_ret (d_var (pv 3)))))))

theorem sc_is_settled : FnScope ["ladder", "options", "amount", "choice"] ["ladder", "options", "amount", "choice"] (defScope (top 77)) := ⟨rfl, rfl, rfl, by decide +kernel, rfl, by decide +kernel, by decide +kernel⟩
theorem cal_is_settled {P : Program} {w : World} {K : PySem.W.Frag} {mg : Str → Option Value} {base : Heap} (g : Glob K mg) (F : ∃ f fd, FnP K "is_settled" (top 77) f fd ∧ mg "is_settled" = some (.ref f)) (c_check_simple : CalP P w K mg base "check_simple" 6 1 ["ladder"] F_check_simple) (c_check_options : CalP P w K mg base "check_options" 3 2 ["ladder", "options"] F_check_options) (c_check_amount : CalP P w K mg base "check_amount" 3 1 ["value"] F_check_amount) (c_check_choice : CalP P w K mg base "check_choice" 2 2 ["options", "choice"] F_check_choice) (c_is_stable : CalP P w K mg base "is_stable" 2 3 ["table", "options", "choice"] F_is_stable) (c_payments_with : CalP P w K mg base "payments_with" 10 3 ["ladder", "options", "amount"] F_payments_with) : CalP P w K mg base "is_settled" 11 4 ["ladder", "options", "amount", "choice"] F_is_settled := by
  obtain ⟨f, fd, F, hm⟩ := F
  obtain ⟨f_check_simple, fd_check_simple, ok_check_simple, mg_check_simple, kp_check_simple, bd_check_simple⟩ := c_check_simple
  obtain ⟨f_check_options, fd_check_options, ok_check_options, mg_check_options, kp_check_options, bd_check_options⟩ := c_check_options
  obtain ⟨f_check_amount, fd_check_amount, ok_check_amount, mg_check_amount, kp_check_amount, bd_check_amount⟩ := c_check_amount
  obtain ⟨f_check_choice, fd_check_choice, ok_check_choice, mg_check_choice, kp_check_choice, bd_check_choice⟩ := c_check_choice
  obtain ⟨f_is_stable, fd_is_stable, ok_is_stable, mg_is_stable, kp_is_stable, bd_is_stable⟩ := c_is_stable
  obtain ⟨f_payments_with, fd_payments_with, ok_payments_with, mg_payments_with, kp_payments_with, bd_payments_with⟩ := c_payments_with
  refine ⟨f, fd, ?_, hm, F.kp, F.bindsN fun _ _ _ _ _ _ us hl => match us, hl with | [_, _, _, _], _ => rfl⟩
  have sc := sc_is_settled
  refine fn_P (toFun F) sc rfl fun cdv A outer s H E hr => ?_
  have hu := units64 hr
  have hu5 := units65 hr
  have hu1 := units1 hr
  exact (s_cons (s_expr (d_call ok_check_simple (hr.mono (by decide : 6 ≤ 10)) rfl mg_check_simple kp_check_simple bd_check_simple (a_cons (d_var (pv 0)) a_nil)))
    (s_cons (s_expr (d_call ok_check_options (hr.mono (by decide : 3 ≤ 10)) rfl mg_check_options kp_check_options bd_check_options (a_cons (d_var (pv 0)) (a_cons (d_var (pv 1)) a_nil))))
    (s_cons (s_expr (d_call ok_check_amount (hr.mono (by decide : 3 ≤ 10)) rfl mg_check_amount kp_check_amount bd_check_amount (a_cons (d_var (pv 2)) a_nil)))
    (s_cons (s_expr (d_call ok_check_choice (hr.mono (by decide : 2 ≤ 10)) rfl mg_check_choice kp_check_choice bd_check_choice (a_cons (d_var (pv 1)) (a_cons (d_var (pv 3)) a_nil))))
    (s_one (s_ret (d_call ok_is_stable (hr.mono (by decide : 2 ≤ 10)) rfl mg_is_stable kp_is_stable bd_is_stable (a_cons (d_call ok_payments_with (hr.mono (by decide : 10 ≤ 10)) rfl mg_payments_with kp_payments_with bd_payments_with (a_cons (d_var (pv 0)) (a_cons (d_var (pv 1)) (a_cons (d_var (pv 2)) a_nil)))) (a_cons (d_var (pv 1)) (a_cons (d_var (pv 3)) a_nil))))))))))

theorem sc_settled : FnScope ["ladder", "options", "amount", "table", "choice"] ["ladder", "options", "amount"] (defScope (top 78)) := ⟨rfl, rfl, rfl, by decide +kernel, rfl, by decide +kernel, by decide +kernel⟩
theorem cal_settled {P : Program} {w : World} {K : PySem.W.Frag} {mg : Str → Option Value} {base : Heap} (g : Glob K mg) (F : ∃ f fd, FnP K "settled" (top 78) f fd ∧ mg "settled" = some (.ref f)) (c_check_simple : CalP P w K mg base "check_simple" 6 1 ["ladder"] F_check_simple) (c_check_options : CalP P w K mg base "check_options" 3 2 ["ladder", "options"] F_check_options) (c_check_amount : CalP P w K mg base "check_amount" 3 1 ["value"] F_check_amount) (c_payments_with : CalP P w K mg base "payments_with" 10 3 ["ladder", "options", "amount"] F_payments_with) (c_choices_of : CalP P w K mg base "choices_of" 1 1 ["options"] F_choices_of) (c_is_stable : CalP P w K mg base "is_stable" 2 3 ["table", "options", "choice"] F_is_stable) : CalP P w K mg base "settled" 11 3 ["ladder", "options", "amount"] F_settled := by
  obtain ⟨f, fd, F, hm⟩ := F
  obtain ⟨f_check_simple, fd_check_simple, ok_check_simple, mg_check_simple, kp_check_simple, bd_check_simple⟩ := c_check_simple
  obtain ⟨f_check_options, fd_check_options, ok_check_options, mg_check_options, kp_check_options, bd_check_options⟩ := c_check_options
  obtain ⟨f_check_amount, fd_check_amount, ok_check_amount, mg_check_amount, kp_check_amount, bd_check_amount⟩ := c_check_amount
  obtain ⟨f_payments_with, fd_payments_with, ok_payments_with, mg_payments_with, kp_payments_with, bd_payments_with⟩ := c_payments_with
  obtain ⟨f_choices_of, fd_choices_of, ok_choices_of, mg_choices_of, kp_choices_of, bd_choices_of⟩ := c_choices_of
  obtain ⟨f_is_stable, fd_is_stable, ok_is_stable, mg_is_stable, kp_is_stable, bd_is_stable⟩ := c_is_stable
  refine ⟨f, fd, ?_, hm, F.kp, F.bindsN fun _ _ _ _ _ _ us hl => match us, hl with | [_, _, _], _ => rfl⟩
  have sc := sc_settled
  refine fn_P (toFun F) sc rfl fun cdv A outer s H E hr => ?_
  have hu := units64 hr
  have hu5 := units65 hr
  have hu1 := units1 hr
  exact (s_cons (s_expr (d_call ok_check_simple (hr.mono (by decide : 6 ≤ 10)) rfl mg_check_simple kp_check_simple bd_check_simple (a_cons (d_var (pv 0)) a_nil)))
    (s_cons (s_expr (d_call ok_check_options (hr.mono (by decide : 3 ≤ 10)) rfl mg_check_options kp_check_options bd_check_options (a_cons (d_var (pv 0)) (a_cons (d_var (pv 1)) a_nil))))
    (s_cons (s_expr (d_call ok_check_amount (hr.mono (by decide : 3 ≤ 10)) rfl mg_check_amount kp_check_amount bd_check_amount (a_cons (d_var (pv 2)) a_nil)))
    (s_cons (s_asg (ps_set (i := 3) sc.nd rfl (Or.inr rfl) (d_call ok_payments_with (hr.mono (by decide : 10 ≤ 10)) rfl mg_payments_with kp_payments_with bd_payments_with (a_cons (d_var (pv 0)) (a_cons (d_var (pv 1)) (a_cons (d_var (pv 2)) a_nil))))))
    (s_one (s_ret (d_callTy ct_tuple rfl g.tuple_ (by decide +kernel) (r_cons (d_r (d_frz (l_comp (own := [("choice", 4)]) rfl sc.nd (i_seq (d_call ok_choices_of (hr.mono (by decide : 1 ≤ 10)) rfl mg_choices_of kp_choices_of bd_choices_of (a_cons (d_var (pv 1)) a_nil))) (blkOk_by (own := [("choice", 4)]) (N := ["ladder", "options", "amount", "table", "choice"]) (sc := defScope (top 78)) (by decide +kernel)) (fun _ _ _ _ _ => (g_name (pg_name (i := 4) sc.nd rfl (Or.inl rfl)))) (fun _ _ _ _ _ => (t_one (c_val (d_call ok_is_stable (hr.mono (by decide : 2 ≤ 10)) rfl mg_is_stable kp_is_stable bd_is_stable (a_cons (d_var (pv 3)) (a_cons (d_var (pv 1)) (a_cons (d_var (pv 4)) a_nil))))))) (fun _ _ _ _ _ => (d_var (pv 4))) (by decide)))) r_nil))))))))

theorem sc_joined_pairs : FnScope ["pairs", "first", "second", "most", "table", "holder"] ["pairs", "first", "second", "most"] (defScope (top 80)) := ⟨rfl, rfl, rfl, by decide +kernel, rfl, by decide +kernel, by decide +kernel⟩
theorem cal_joined_pairs {P : Program} {w : World} {K : PySem.W.Frag} {mg : Str → Option Value} {base : Heap} (g : Glob K mg) (F : ∃ f fd, FnP K "joined_pairs" (top 80) f fd ∧ mg "joined_pairs" = some (.ref f))  : CalP P w K mg base "joined_pairs" 1 4 ["pairs", "first", "second", "most"] F_joined_pairs := by
  obtain ⟨f, fd, F, hm⟩ := F
  refine ⟨f, fd, ?_, hm, F.kp, F.bindsN fun _ _ _ _ _ _ us hl => match us, hl with | [_, _, _, _], _ => rfl⟩
  have sc := sc_joined_pairs
  refine fn_P (toFun F) sc rfl fun cdv A outer s H E hr => ?_
  have hu := units64 hr
  have hu5 := units65 hr
  have hu1 := units1 hr
  exact (s_cons (s_dk (ps_set (i := 4) sc.nd rfl (Or.inr rfl) (k_dictT rfl rfl g.dict_ (by decide +kernel) (d_var (pv 0)))))
    (s_cons (s_if (c_din hu1 (d_var (pv 2)) (pv 4)) (s_cons (s_dput (ps_dput hu1 (pv 4) (d_var (pv 1)) (d_bin op_addD (d_r (d_dget2 hu1 (pv 4) (d_var (pv 1)) d_int ⟨rfl, rfl, rfl, rfl⟩)) (d_r (d_dget hu1 (pv 4) (d_var (pv 2)) (fun _ _ => rfl)))) rfl))
    (s_one (s_dpop (ps_expr (pe_dpop1 (pv 4) (d_var (pv 2)) ⟨rfl, rfl, rfl, rfl⟩))))) s_nil)
    (s_cons (s_if (c_val (d_callB (cb_any rfl) rfl g.any_ (by decide +kernel) (r_cons (d_r (d_frz (l_lock 4 (l_comp (own := [("holder", 5)]) rfl sc.nd (i_dk (pv 4)) (blkOk_by (own := [("holder", 5)]) (N := ["pairs", "first", "second", "most", "table", "holder"]) (sc := defScope (top 80)) (by decide +kernel)) (fun _ _ _ _ _ => (g_name (pg_name (i := 5) sc.nd rfl (Or.inl rfl)))) (fun _ _ _ _ _ => t_yes) (fun _ _ _ _ _ => (d_cmp op_gtD (d_r (d_dget hu1 (pv 4) (d_var (pv 5)) (fun _ _ => rfl))) (d_r (d_var (pv 3))) (nomark _))) (by decide))))) r_nil))) (s_one s_never) s_nil)
    (s_one (s_ret (d_callTy ct_tuple rfl g.tuple_ (by decide +kernel) (r_cons (d_r (d_frz (l_comp (own := [("holder", 5)]) rfl sc.nd (i_seq (d_frz (l_sortDk rfl rfl g.sorted_ (by decide +kernel) (pv 4)))) (blkOk_by (own := [("holder", 5)]) (N := ["pairs", "first", "second", "most", "table", "holder"]) (sc := defScope (top 80)) (by decide +kernel)) (fun _ _ _ _ _ => (g_name (pg_name (i := 5) sc.nd rfl (Or.inl rfl)))) (fun _ _ _ _ _ => t_yes) (fun _ _ _ _ _ => (d_tup (a_cons (d_bin op_subD (d_r (d_var (pv 5))) (d_r (d_callTy ct_int rfl g.int_ (by decide +kernel) (r_cons (d_r (d_cmp op_gtD (d_r (d_var (pv 5))) (d_r (d_var (pv 2))) (nomark _))) r_nil)))) (a_cons (d_dget hu1 (pv 4) (d_var (pv 5)) (fun _ _ => rfl)) a_nil)))) (by decide)))) r_nil)))))))

theorem sc_check_fit : FnScope ["rung", "first", "second", "weights", "caps"] ["rung", "first", "second"] (defScope (top 81)) := ⟨rfl, rfl, rfl, by decide +kernel, rfl, by decide +kernel, by decide +kernel⟩
theorem cal_check_fit {P : Program} {w : World} {K : PySem.W.Frag} {mg : Str → Option Value} {base : Heap} (g : Glob K mg) (F : ∃ f fd, FnP K "check_fit" (top 81) f fd ∧ mg "check_fit" = some (.ref f))  : CalP P w K mg base "check_fit" 1 3 ["rung", "first", "second"] F_check_fit := by
  obtain ⟨f, fd, F, hm⟩ := F
  refine ⟨f, fd, ?_, hm, F.kp, F.bindsN fun _ _ _ _ _ _ us hl => match us, hl with | [_, _, _], _ => rfl⟩
  have sc := sc_check_fit
  refine fn_P (toFun F) sc rfl fun cdv A outer s H E hr => ?_
  have hu := units64 hr
  have hu5 := units65 hr
  have hu1 := units1 hr
  exact (s_cons (s_par2 (ps_par (i := 3) (j := 4) rfl sc.nd rfl rfl (by decide) rfl rfl (m_k (k_dictT rfl rfl g.dict_ (by decide +kernel) (d_ix ix_D (d_r (d_var (pv 0))) (d_r d_int) (fun _ _ => rfl))) (m_k (k_dictT rfl rfl g.dict_ (by decide +kernel) (d_ix ix_D (d_r (d_var (pv 0))) (d_r d_int) (fun _ _ => rfl))) m_nil)) rfl))
    (s_one (s_if (PW.pt (c_and (c_din hu1 (d_var (pv 1)) (pv 3)) (c_and1 (c_din hu1 (d_var (pv 2)) (pv 3))))) (s_cons (s_if (c_cmp (op_neQ hu) (d_r (d_din hu1 (d_var (pv 1)) (pv 4))) (d_r (d_din hu1 (d_var (pv 2)) (pv 4))) (nomark _)) (s_one s_never) s_nil)
    (s_one (s_if (PW.pt (c_and (c_din hu1 (d_var (pv 1)) (pv 4)) (c_and1 (c_cmp (op_neQ hu) (d_r (d_bin op_mulD (d_r (d_dget hu1 (pv 4) (d_var (pv 1)) (fun _ _ => rfl))) (d_r (d_dget hu1 (pv 3) (d_var (pv 2)) (fun _ _ => rfl))))) (d_r (d_bin op_mulD (d_r (d_dget hu1 (pv 4) (d_var (pv 2)) (fun _ _ => rfl))) (d_r (d_dget hu1 (pv 3) (d_var (pv 1)) (fun _ _ => rfl))))) (nomark _))))) (s_one s_never) s_nil))) s_nil)))

theorem sc_joined : FnScope ["ladder", "first", "second", "rung", "rungs", "weights"] ["ladder", "first", "second"] (defScope (top 82)) := ⟨rfl, rfl, rfl, by decide +kernel, rfl, by decide +kernel, by decide +kernel⟩
theorem cal_joined {P : Program} {w : World} {K : PySem.W.Frag} {mg : Str → Option Value} {base : Heap} (g : Glob K mg) (F : ∃ f fd, FnP K "joined" (top 82) f fd ∧ mg "joined" = some (.ref f)) (c_check_ladder : CalP P w K mg base "check_ladder" 5 1 ["value"] F_check_ladder) (c_check_holder : CalP P w K mg base "check_holder" 2 2 ["ladder", "holder"] F_check_holder) (c_check_fit : CalP P w K mg base "check_fit" 1 3 ["rung", "first", "second"] F_check_fit) (c_joined_pairs : CalP P w K mg base "joined_pairs" 1 4 ["pairs", "first", "second", "most"] F_joined_pairs) : CalP P w K mg base "joined" 6 3 ["ladder", "first", "second"] F_joined := by
  obtain ⟨f, fd, F, hm⟩ := F
  obtain ⟨f_check_ladder, fd_check_ladder, ok_check_ladder, mg_check_ladder, kp_check_ladder, bd_check_ladder⟩ := c_check_ladder
  obtain ⟨f_check_holder, fd_check_holder, ok_check_holder, mg_check_holder, kp_check_holder, bd_check_holder⟩ := c_check_holder
  obtain ⟨f_check_fit, fd_check_fit, ok_check_fit, mg_check_fit, kp_check_fit, bd_check_fit⟩ := c_check_fit
  obtain ⟨f_joined_pairs, fd_joined_pairs, ok_joined_pairs, mg_joined_pairs, kp_joined_pairs, bd_joined_pairs⟩ := c_joined_pairs
  refine ⟨f, fd, ?_, hm, F.kp, F.bindsN fun _ _ _ _ _ _ us hl => match us, hl with | [_, _, _], _ => rfl⟩
  have sc := sc_joined
  refine fn_P (toFun F) sc rfl fun cdv A outer s H E hr => ?_
  have hu := units64 hr
  have hu5 := units65 hr
  have hu1 := units1 hr
  exact (s_cons (s_expr (d_call ok_check_ladder (hr.mono (by decide : 5 ≤ 5)) rfl mg_check_ladder kp_check_ladder bd_check_ladder (a_cons (d_var (pv 0)) a_nil)))
    (s_cons (s_expr (d_call ok_check_holder (hr.mono (by decide : 2 ≤ 5)) rfl mg_check_holder kp_check_holder bd_check_holder (a_cons (d_var (pv 0)) (a_cons (d_var (pv 1)) a_nil))))
    (s_cons (s_expr (d_call ok_check_holder (hr.mono (by decide : 2 ≤ 5)) rfl mg_check_holder kp_check_holder bd_check_holder (a_cons (d_var (pv 0)) (a_cons (d_var (pv 2)) a_nil))))
    (s_cons (s_if (c_cmp op_geD (d_r (d_var (pv 1))) (d_r (d_var (pv 2))) (nomark _)) (s_one s_never) s_nil)
    (s_cons (s_for PassesOwn.never rfl (i_seq (d_ix ix_D (d_r (d_var (pv 0))) (d_r d_int) (fun _ _ => rfl))) (g_name (pg_name (i := 3) sc.nd rfl (Or.inl rfl))) (s_one (s_if (c_cmp (op_eqQ hu) (d_r (d_ix ix_D (d_r (d_var (pv 3))) (d_r d_int) (fun _ _ => rfl))) (d_r d_str) (nomark _)) (s_one (s_expr (d_call ok_check_fit (hr.mono (by decide : 1 ≤ 5)) rfl mg_check_fit kp_check_fit bd_check_fit (a_cons (d_var (pv 3)) (a_cons (d_var (pv 1)) (a_cons (d_var (pv 2)) a_nil)))))) s_nil)))
    (s_cons (s_own (ps_set (i := 4) sc.nd rfl (Or.inl rfl) (l_lst a_nil)))
    (s_cons (s_for PassesOwn.never rfl (i_seq (d_ix ix_D (d_r (d_var (pv 0))) (d_r d_int) (fun _ _ => rfl))) (g_name (pg_name (i := 3) sc.nd rfl (Or.inl rfl))) (s_one (s_if (c_cmp (op_eqQ hu) (d_r (d_ix ix_D (d_r (d_var (pv 3))) (d_r d_int) (fun _ _ => rfl))) (d_r d_str) (nomark _)) (s_one (s_app (ps_expr (pe_bm PySem.F.plainAttrs_list PySem.F.slot_list_append PySem.F.type_list_append mt_append (pv 4) (pa_cons (d_tup (a_cons d_str (a_cons (d_call ok_joined_pairs (hr.mono (by decide : 1 ≤ 5)) rfl mg_joined_pairs kp_joined_pairs bd_joined_pairs (a_cons (d_ix ix_D (d_r (d_var (pv 3))) (d_r d_int) (fun _ _ => rfl)) (a_cons (d_var (pv 1)) (a_cons (d_var (pv 2)) (a_cons d_int a_nil))))) a_nil))) pa_nil))))) (s_cons (s_asg (ps_set (i := 5) sc.nd rfl (Or.inl rfl) (d_call ok_joined_pairs (hr.mono (by decide : 1 ≤ 5)) rfl mg_joined_pairs kp_joined_pairs bd_joined_pairs (a_cons (d_ix ix_D (d_r (d_var (pv 3))) (d_r d_int) (fun _ _ => rfl)) (a_cons (d_var (pv 1)) (a_cons (d_var (pv 2)) (a_cons d_int a_nil)))))))
    (s_one (s_app (ps_expr (pe_bm PySem.F.plainAttrs_list PySem.F.slot_list_append PySem.F.type_list_append mt_append (pv 4) (pa_cons (d_tup (a_cons d_str (a_cons (d_var (pv 5)) (a_cons (d_call ok_joined_pairs (hr.mono (by decide : 1 ≤ 5)) rfl mg_joined_pairs kp_joined_pairs bd_joined_pairs (a_cons (d_ix ix_D (d_r (d_var (pv 3))) (d_r d_int) (fun _ _ => rfl)) (a_cons (d_var (pv 1)) (a_cons (d_var (pv 2)) (a_cons d_int a_nil))))) a_nil)))) pa_nil)))))))))
    (s_one (s_ret (d_tup (a_cons (d_bin op_subD (d_r (d_ix ix_D (d_r (d_var (pv 0))) (d_r d_int) (fun _ _ => rfl))) (d_r d_int)) (a_cons (d_callTy ct_tuple rfl g.tuple_ (by decide +kernel) (r_cons (d_bor (pv 4)) r_nil)) a_nil))))))))))))

theorem sc__law_town : FnScope ["script"] ["script"] (defScope (top 84)) := ⟨rfl, rfl, rfl, by decide +kernel, rfl, by decide +kernel, by decide +kernel⟩
theorem cal__law_town {P : Program} {w : World} {K : PySem.W.Frag} {mg : Str → Option Value} {base : Heap} (g : Glob K mg) (F : ∃ f fd, FnP K "_law_town" (top 84) f fd ∧ mg "_law_town" = some (.ref f))  : CalL P w K mg base "_law_town" 1 1 ["script"] F__law_town := by
  obtain ⟨f, fd, F, hm⟩ := F
  refine ⟨f, fd, ?_, hm, F.kp, F.bindsN fun _ _ _ _ _ _ us hl => match us, hl with | [_], _ => rfl⟩
  have sc := sc__law_town
  refine fn_L (toFun F) sc rfl fun cdv A outer s H E hr => ?_
  have hu := units64 hr
  have hu5 := units65 hr
  have hu1 := units1 hr
  exact (s_one (s_retL (l_bin op_addL (d_r (d_frz (l_lst (a_cons d_int a_nil)))) (d_r (d_frz (l_callTy ct_list rfl g.list_ (by decide +kernel) (r_cons (d_r (d_var (pv 0))) r_nil)))))))

theorem sc__law_draw : FnScope ["script", "town", "limit", "at", "left", "number"] ["script", "town", "limit"] (defScope (top 85)) := ⟨rfl, rfl, rfl, by decide +kernel, rfl, by decide +kernel, by decide +kernel⟩
theorem cal__law_draw {P : Program} {w : World} {K : PySem.W.Frag} {mg : Str → Option Value} {base : Heap} (g : Glob K mg) (F : ∃ f fd, FnP K "_law_draw" (top 85) f fd ∧ mg "_law_draw" = some (.ref f))  : CalT P w K mg base "_law_draw" 1 1 ["script", "town", "limit"] F__law_draw := by
  obtain ⟨f, fd, F, hm⟩ := F
  refine ⟨f, fd, ?_, hm, F.kp, F.bindsN fun _ _ _ _ _ _ us hl => match us, hl with | [_, _, _], _ => rfl⟩
  have sc := sc__law_draw
  refine fn_T (toFun F) sc rfl fun cdv A outer s H E hr => ?_
  have hu := units64 hr
  have hu5 := units65 hr
  have hu1 := units1 hr
  exact (s_cons (s_setT (ps_asg (d_bin op_addD (d_r (d_ixT (pv 1) d_int (fun _ _ => rfl))) (d_r d_int)) (pg_sub (pv 1) d_int set_list)))
    (s_cons (s_if (c_cmp (op_eqQ hu) (d_r (d_var (pv 0))) (d_r (d_frz (l_lst a_nil))) (nomark _)) (s_one (s_ret (d_bin op_modD (d_r (d_bin op_fdivD (d_r (d_bin op_mulD (d_r (d_bin op_mulD (d_r (d_ixT (pv 1) d_int (fun _ _ => rfl))) (d_r (d_ixT (pv 1) d_int (fun _ _ => rfl))))) (d_r d_int))) (d_r d_int))) (d_r (d_var (pv 2)))))) s_nil)
    (s_cons (s_asg (ps_set (i := 3) sc.nd rfl (Or.inl rfl) (d_bin op_modD (d_r (d_ixT (pv 1) d_int (fun _ _ => rfl))) (d_r (d_callB cb_len rfl g.len_ (by decide +kernel) (r_cons (d_r (d_var (pv 0))) r_nil))))))
    (s_cons (s_asg (ps_set (i := 4) sc.nd rfl (Or.inl rfl) (d_ixT (pv 1) (d_bin op_addD (d_r d_int) (d_r (d_var (pv 3)))) (fun _ _ => rfl))))
    (s_cons (s_if (PW.pt (c_and (c_cmp op_geD (d_r (d_ix ix_D (d_r (d_var (pv 0))) (d_r (d_var (pv 3))) (fun _ _ => rfl))) (d_r (d_bin op_powD (d_r d_int) (d_r d_int))) (nomark _)) (c_and1 (c_cmp op_gtD (d_r (d_var (pv 4))) (d_r d_int) (nomark _))))) (s_cons (s_setT (ps_asg (d_bin op_fdivD (d_r (d_var (pv 4))) (d_r (d_var (pv 2)))) (pg_sub (pv 1) (d_bin op_addD (d_r d_int) (d_r (d_var (pv 3)))) set_list)))
    (s_one (s_ret (d_bin op_modD (d_r (d_var (pv 4))) (d_r (d_var (pv 2))))))) s_nil)
    (s_cons (s_asg (ps_set (i := 5) sc.nd rfl (Or.inl rfl) (d_bin op_modD (d_r (d_bin op_addD (d_r (d_ix ix_D (d_r (d_var (pv 0))) (d_r (d_var (pv 3))) (fun _ _ => rfl))) (d_r (d_bin op_mulD (d_r d_int) (d_r (d_ixT (pv 1) d_int (fun _ _ => rfl))))))) (d_r d_int))))
    (s_cons (s_asg (ps_set (i := 5) sc.nd rfl (Or.inl rfl) (d_bin op_modD (d_r (d_bin op_powD (d_r (d_var (pv 5))) (d_r d_int))) (d_r d_int))))
    (s_one (s_ret (d_bin op_modD (d_r (d_bin op_fdivD (d_r (d_bin op_modD (d_r (d_bin op_addD (d_r (d_bin op_mulD (d_r (d_bin op_fdivD (d_r (d_var (pv 5))) (d_r d_int))) (d_r d_int))) (d_r (d_var (pv 5))))) (d_r d_int))) (d_r d_int))) (d_r (d_var (pv 2)))))))))))))

theorem sc__law_pick : FnScope ["script", "town", "choices"] ["script", "town", "choices"] (defScope (top 86)) := ⟨rfl, rfl, rfl, by decide +kernel, rfl, by decide +kernel, by decide +kernel⟩
theorem cal__law_pick {P : Program} {w : World} {K : PySem.W.Frag} {mg : Str → Option Value} {base : Heap} (g : Glob K mg) (F : ∃ f fd, FnP K "_law_pick" (top 86) f fd ∧ mg "_law_pick" = some (.ref f)) (c__law_draw : CalT P w K mg base "_law_draw" 1 1 ["script", "town", "limit"] F__law_draw) : CalT P w K mg base "_law_pick" 2 1 ["script", "town", "choices"] F__law_pick := by
  obtain ⟨f, fd, F, hm⟩ := F
  obtain ⟨f__law_draw, fd__law_draw, ok__law_draw, mg__law_draw, kp__law_draw, bd__law_draw⟩ := c__law_draw
  refine ⟨f, fd, ?_, hm, F.kp, F.bindsN fun _ _ _ _ _ _ us hl => match us, hl with | [_, _, _], _ => rfl⟩
  have sc := sc__law_pick
  refine fn_T (toFun F) sc rfl fun cdv A outer s H E hr => ?_
  have hu := units64 hr
  have hu5 := units65 hr
  have hu1 := units1 hr
  exact (s_one (s_ret (d_ix ix_D (d_r (d_var (pv 2))) (d_r (d_callT ok__law_draw (hr.mono (by decide : 1 ≤ 1)) rfl mg__law_draw kp__law_draw bd__law_draw (d_var (pv 0)) (pv 1) (a_cons (d_callB cb_len rfl g.len_ (by decide +kernel) (r_cons (d_r (d_var (pv 2))) r_nil)) a_nil))) (fun _ _ => rfl))))

theorem sc__law_outcome : FnScope ["way", "arguments", "caught", "result", "error"] ["way", "arguments"] (defScope (top 87)) := ⟨rfl, rfl, rfl, by decide +kernel, rfl, by decide +kernel, by decide +kernel⟩
theorem cal__law_outcome {P : Program} {w : World} {K : PySem.W.Frag} {mg : Str → Option Value} {base : Heap} (g : Glob K mg) (F : ∃ f fd, FnP K "_law_outcome" (top 87) f fd ∧ mg "_law_outcome" = some (.ref f)) (EF : ExF K mg) (c__law_call : CalX P w K mg base "_law_call" 12 2 ["way", "arguments"] F__law_call) (c__law_name : CalN P w K mg base "_law_name" 1  ["caught"] F__law_name) : CalP P w K mg base "_law_outcome" 13 2 ["way", "arguments"] F__law_outcome := by
  obtain ⟨f, fd, F, hm⟩ := F
  obtain ⟨f__law_call, fd__law_call, ok__law_call, mg__law_call, kp__law_call, bd__law_call⟩ := c__law_call
  obtain ⟨f__law_name, fd__law_name, ok__law_name, mg__law_name, kp__law_name, bd__law_name⟩ := c__law_name
  refine ⟨f, fd, ?_, hm, F.kp, F.bindsN fun _ _ _ _ _ _ us hl => match us, hl with | [_, _], _ => rfl⟩
  have sc := sc__law_outcome
  refine fn_P (toFun F) sc rfl fun cdv A outer s H E hr => ?_
  have hu := units64 hr
  have hu5 := units65 hr
  have hu1 := units1 hr
  exact (s_cons (s_asg (ps_set (i := 2) sc.nd rfl (Or.inl rfl) d_non))
    (s_cons (s_asg (ps_set (i := 3) sc.nd rfl (Or.inl rfl) d_non))
    (s_cons (s_tryC (jr := 3) (jc := 2) (ie := 4) EF rfl rfl rfl sc.nd rfl rfl rfl (Or.inl rfl) (Or.inl rfl) rfl rfl ok__law_call (hr.mono (by decide : 12 ≤ 12)) rfl mg__law_call kp__law_call bd__law_call (fun _ _ => (a_cons (d_var (pv 0)) (a_cons (d_var (pv 1)) a_nil))) (fun _ _ _ => pv 4))
    (s_cons (s_if (c_isN (pv 2) (nomark _)) (s_one (s_ret (d_tup (a_cons d_str (a_cons (d_var (pv 3)) a_nil))))) s_nil)
    (s_one (s_ret (d_tup (a_cons d_str (a_cons (d_callN ok__law_name (hr.mono (by decide : 1 ≤ 12)) rfl mg__law_name kp__law_name bd__law_name (pv 2)) a_nil)))))))))

theorem sc__law_name : FnScope ["caught", "found"] ["caught"] (defScope (top 88)) := ⟨rfl, rfl, rfl, by decide +kernel, rfl, by decide +kernel, by decide +kernel⟩
theorem cal__law_name {P : Program} {w : World} {K : PySem.W.Frag} {mg : Str → Option Value} {base : Heap} (g : Glob K mg) (F : ∃ f fd, FnP K "_law_name" (top 88) f fd ∧ mg "_law_name" = some (.ref f)) (EF : ExF K mg)  (gVE : mg "ValueError" = none)  : CalN P w K mg base "_law_name" 1  ["caught"] F__law_name := by
  obtain ⟨f, fd, F, hm⟩ := F
  refine ⟨f, fd, ?_, hm, F.kp, F.bindsN fun _ _ _ _ _ _ us hl => match us, hl with | [_], _ => rfl⟩
  have sc := sc__law_name
  refine fn_N (toFun F) sc rfl fun cdv A outer s H E hr => ?_
  have hu := units64 hr
  have hu5 := units65 hr
  have hu1 := units1 hr
  exact (s_cons (s_if (c_not (c_val (d_isXV EF rfl g.isinstance rfl gVE (pv 0)))) (s_one (s_ret (d_un un_negD (d_r d_int)))) s_nil)
    (s_cons (s_asg (ps_set (i := 1) sc.nd rfl (Or.inl rfl) (d_frz (l_lst (a_cons (d_isX EF (by decide +kernel) rfl g.isinstance rfl (pv 0)) (a_cons (d_isX EF (by decide +kernel) rfl g.isinstance rfl (pv 0)) a_nil))))))
    (s_cons (s_asg (ps_set (i := 1) sc.nd rfl (Or.inl rfl) (d_bin op_addD (d_r (d_var (pv 1))) (d_r (d_frz (l_lst (a_cons (d_isX EF (by decide +kernel) rfl g.isinstance rfl (pv 0)) (a_cons (d_isX EF (by decide +kernel) rfl g.isinstance rfl (pv 0)) a_nil))))))))
    (s_cons (s_asg (ps_set (i := 1) sc.nd rfl (Or.inl rfl) (d_bin op_addD (d_r (d_var (pv 1))) (d_r (d_frz (l_lst (a_cons (d_isX EF (by decide +kernel) rfl g.isinstance rfl (pv 0)) (a_cons (d_isX EF (by decide +kernel) rfl g.isinstance rfl (pv 0)) a_nil))))))))
    (s_cons (s_asg (ps_set (i := 1) sc.nd rfl (Or.inl rfl) (d_bin op_addD (d_r (d_var (pv 1))) (d_r (d_frz (l_lst (a_cons (d_isX EF (by decide +kernel) rfl g.isinstance rfl (pv 0)) (a_cons (d_isX EF (by decide +kernel) rfl g.isinstance rfl (pv 0)) a_nil))))))))
    (s_cons (s_asg (ps_set (i := 1) sc.nd rfl (Or.inl rfl) (d_bin op_addD (d_r (d_var (pv 1))) (d_r (d_frz (l_lst (a_cons (d_isX EF (by decide +kernel) rfl g.isinstance rfl (pv 0)) (a_cons (d_isX EF (by decide +kernel) rfl g.isinstance rfl (pv 0)) a_nil))))))))
    (s_cons (s_asg (ps_set (i := 1) sc.nd rfl (Or.inl rfl) (d_bin op_addD (d_r (d_var (pv 1))) (d_r (d_frz (l_lst (a_cons (d_isX EF (by decide +kernel) rfl g.isinstance rfl (pv 0)) (a_cons (d_isX EF (by decide +kernel) rfl g.isinstance rfl (pv 0)) a_nil))))))))
    (s_cons (s_asg (ps_set (i := 1) sc.nd rfl (Or.inl rfl) (d_bin op_addD (d_r (d_var (pv 1))) (d_r (d_frz (l_lst (a_cons (d_isX EF (by decide +kernel) rfl g.isinstance rfl (pv 0)) a_nil)))))))
    (s_one (s_ret (d_if (c_cmp (op_eqQ hu) (d_r (d_count (d_var (pv 1)) d_bl)) (d_r d_int) (nomark _)) (d_index (d_var (pv 1)) d_bl) (d_un un_negD (d_r d_int)))))))))))))

theorem sc__law_raises : FnScope ["name", "names"] ["name"] (defScope (top 89)) := ⟨rfl, rfl, rfl, by decide +kernel, rfl, by decide +kernel, by decide +kernel⟩
theorem cal__law_raises {P : Program} {w : World} {K : PySem.W.Frag} {mg : Str → Option Value} {base : Heap} (g : Glob K mg) (F : ∃ f fd, FnP K "_law_raises" (top 89) f fd ∧ mg "_law_raises" = some (.ref f))  : CalP P w K mg base "_law_raises" 1 1 ["name"] F__law_raises := by
  obtain ⟨f, fd, F, hm⟩ := F
  refine ⟨f, fd, ?_, hm, F.kp, F.bindsN fun _ _ _ _ _ _ us hl => match us, hl with | [_], _ => rfl⟩
  have sc := sc__law_raises
  refine fn_P (toFun F) sc rfl fun cdv A outer s H E hr => ?_
  have hu := units64 hr
  have hu5 := units65 hr
  have hu1 := units1 hr
  exact (s_cons (s_asg (ps_set (i := 1) sc.nd rfl (Or.inl rfl) (d_frz (l_lst (a_cons d_str (a_cons d_str (a_cons d_str (a_cons d_str (a_cons d_str (a_cons d_str (a_cons d_str a_nil)))))))))))
    (s_cons (s_asg (ps_set (i := 1) sc.nd rfl (Or.inl rfl) (d_bin op_addD (d_r (d_var (pv 1))) (d_r (d_frz (l_lst (a_cons d_str (a_cons d_str (a_cons d_str (a_cons d_str (a_cons d_str (a_cons d_str a_nil))))))))))))
    (s_one (s_ret (d_tup (a_cons d_str (a_cons (d_index (d_var (pv 1)) (d_var (pv 0))) a_nil)))))))

theorem sc__law_pairs : FnScope ["script", "town", "holders", "numbers", "some", "holder"] ["script", "town", "holders", "numbers"] (defScope (top 90)) := ⟨rfl, rfl, rfl, by decide +kernel, rfl, by decide +kernel, by decide +kernel⟩
theorem cal__law_pairs {P : Program} {w : World} {K : PySem.W.Frag} {mg : Str → Option Value} {base : Heap} (g : Glob K mg) (F : ∃ f fd, FnP K "_law_pairs" (top 90) f fd ∧ mg "_law_pairs" = some (.ref f)) (c__law_draw : CalT P w K mg base "_law_draw" 1 1 ["script", "town", "limit"] F__law_draw) (c__law_pick : CalT P w K mg base "_law_pick" 2 1 ["script", "town", "choices"] F__law_pick) : CalT P w K mg base "_law_pairs" 3 2 ["script", "town", "holders", "numbers"] F__law_pairs := by
  obtain ⟨f, fd, F, hm⟩ := F
  obtain ⟨f__law_draw, fd__law_draw, ok__law_draw, mg__law_draw, kp__law_draw, bd__law_draw⟩ := c__law_draw
  obtain ⟨f__law_pick, fd__law_pick, ok__law_pick, mg__law_pick, kp__law_pick, bd__law_pick⟩ := c__law_pick
  refine ⟨f, fd, ?_, hm, F.kp, F.bindsN fun _ _ _ _ _ _ us hl => match us, hl with | [_, _, _, _], _ => rfl⟩
  have sc := sc__law_pairs
  refine fn_T (toFun F) sc rfl fun cdv A outer s H E hr => ?_
  have hu := units64 hr
  have hu5 := units65 hr
  have hu1 := units1 hr
  exact (s_cons (s_asg (as_frz (as_comp (by decide) (ps_setLc (own := [("holder", 5)]) (i := 4) rfl sc.nd rfl rfl (sw_true rfl rfl rfl (by decide +kernel)) (i_rng rfl g.range_ (a_cons (d_var (pv 2)) a_nil)) (blkOk_by (own := [("holder", 5)]) (N := ["script", "town", "holders", "numbers", "some", "holder"]) (sc := defScope (top 90)) (by decide +kernel)) (fun _ _ _ _ _ => (g_name (pg_name (i := 5) sc.nd rfl (Or.inl rfl)))) (fun _ _ _ _ _ => (t_one (c_cmp (op_eqQ hu) (d_r (d_callT ok__law_draw (hr.mono (by decide : 1 ≤ 2)) rfl mg__law_draw kp__law_draw bd__law_draw (d_var (pv 0)) (pv 1) (a_cons d_int a_nil))) (d_r d_int) (nomark _)))) (fun _ _ _ _ _ => (d_var (pv 5)))))))
    (s_cons (s_if (c_cmp (op_eqQ hu) (d_r (d_var (pv 4))) (d_r (d_frz (l_lst a_nil))) (nomark _)) (s_one (s_asg (ps_set (i := 4) sc.nd rfl (Or.inl rfl) (d_frz (l_lst (a_cons (d_callT ok__law_draw (hr.mono (by decide : 1 ≤ 2)) rfl mg__law_draw kp__law_draw bd__law_draw (d_var (pv 0)) (pv 1) (a_cons (d_var (pv 2)) a_nil)) a_nil)))))) s_nil)
    (s_one (s_ret (d_callTy ct_tuple rfl g.tuple_ (by decide +kernel) (r_cons (d_r (d_frz (l_comp (own := [("holder", 5)]) rfl sc.nd (i_seq (d_var (pv 4))) (blkOk_by (own := [("holder", 5)]) (N := ["script", "town", "holders", "numbers", "some", "holder"]) (sc := defScope (top 90)) (by decide +kernel)) (fun _ _ _ _ _ => (g_name (pg_name (i := 5) sc.nd rfl (Or.inl rfl)))) (fun _ _ _ _ _ => t_yes) (fun _ _ _ _ _ => (d_tup (a_cons (d_var (pv 5)) (a_cons (d_callT ok__law_pick (hr.mono (by decide : 2 ≤ 2)) rfl mg__law_pick kp__law_pick bd__law_pick (d_var (pv 0)) (pv 1) (a_cons (d_var (pv 3)) a_nil)) a_nil)))) (by decide)))) r_nil))))))

theorem sc__law_rung : FnScope ["script", "town", "holders", "kind", "weights", "free", "caps", "holder", "weight"] ["script", "town", "holders", "kind"] (defScope (top 91)) := ⟨rfl, rfl, rfl, by decide +kernel, rfl, by decide +kernel, by decide +kernel⟩
theorem cal__law_rung {P : Program} {w : World} {K : PySem.W.Frag} {mg : Str → Option Value} {base : Heap} (g : Glob K mg) (F : ∃ f fd, FnP K "_law_rung" (top 91) f fd ∧ mg "_law_rung" = some (.ref f)) (c__law_pairs : CalT P w K mg base "_law_pairs" 3 2 ["script", "town", "holders", "numbers"] F__law_pairs) (c__law_pick : CalT P w K mg base "_law_pick" 2 1 ["script", "town", "choices"] F__law_pick) (c__law_draw : CalT P w K mg base "_law_draw" 1 1 ["script", "town", "limit"] F__law_draw) : CalT P w K mg base "_law_rung" 4 2 ["script", "town", "holders", "kind"] F__law_rung := by
  obtain ⟨f, fd, F, hm⟩ := F
  obtain ⟨f__law_pairs, fd__law_pairs, ok__law_pairs, mg__law_pairs, kp__law_pairs, bd__law_pairs⟩ := c__law_pairs
  obtain ⟨f__law_pick, fd__law_pick, ok__law_pick, mg__law_pick, kp__law_pick, bd__law_pick⟩ := c__law_pick
  obtain ⟨f__law_draw, fd__law_draw, ok__law_draw, mg__law_draw, kp__law_draw, bd__law_draw⟩ := c__law_draw
  refine ⟨f, fd, ?_, hm, F.kp, F.bindsN fun _ _ _ _ _ _ us hl => match us, hl with | [_, _, _, _], _ => rfl⟩
  have sc := sc__law_rung
  refine fn_T (toFun F) sc rfl fun cdv A outer s H E hr => ?_
  have hu := units64 hr
  have hu5 := units65 hr
  have hu1 := units1 hr
  exact (s_cons (s_if (c_cmp (op_eqQ hu) (d_r (d_var (pv 3))) (d_r d_int) (nomark _)) (s_one (s_ret (d_tup (a_cons d_str (a_cons (d_callT ok__law_pairs (hr.mono (by decide : 3 ≤ 3)) rfl mg__law_pairs kp__law_pairs bd__law_pairs (d_var (pv 0)) (pv 1) (a_cons (d_var (pv 2)) (a_cons (d_frz (l_lst (a_cons d_int (a_cons d_int (a_cons d_int (a_cons d_int (a_cons d_int (a_cons d_int (a_cons d_int (a_cons d_int a_nil)))))))))) a_nil))) a_nil))))) s_nil)
    (s_cons (s_asg (ps_set (i := 4) sc.nd rfl (Or.inl rfl) (d_callT ok__law_pairs (hr.mono (by decide : 3 ≤ 3)) rfl mg__law_pairs kp__law_pairs bd__law_pairs (d_var (pv 0)) (pv 1) (a_cons (d_var (pv 2)) (a_cons (d_frz (l_lst (a_cons d_int (a_cons d_int (a_cons d_int (a_cons d_int (a_cons d_int (a_cons d_int a_nil)))))))) a_nil)))))
    (s_cons (s_asg (ps_set (i := 5) sc.nd rfl (Or.inl rfl) (d_if (c_cmp (op_eqQ hu) (d_r (d_var (pv 3))) (d_r d_int) (nomark _)) (d_ix ix_D (d_r (d_callT ok__law_pick (hr.mono (by decide : 2 ≤ 3)) rfl mg__law_pick kp__law_pick bd__law_pick (d_var (pv 0)) (pv 1) (a_cons (d_var (pv 4)) a_nil))) (d_r d_int) (fun _ _ => rfl)) (d_un un_negD (d_r d_int)))))
    (s_cons (s_own (ps_set (i := 6) sc.nd rfl (Or.inl rfl) (l_lst a_nil)))
    (s_cons (s_for PassesOwn.never rfl (i_seq (d_var (pv 4))) (g_tup rfl (gs_cons (g_name (pg_name (i := 7) sc.nd rfl (Or.inl rfl))) (gs_cons (g_name (pg_name (i := 8) sc.nd rfl (Or.inl rfl))) gs_nil))) (s_one (s_if (PW.pt (c_and (c_cmp (op_neQ hu) (d_r (d_var (pv 7))) (d_r (d_var (pv 5))) (nomark _)) (c_and1 (c_cmp op_gtD (d_r (d_callT ok__law_draw (hr.mono (by decide : 1 ≤ 3)) rfl mg__law_draw kp__law_draw bd__law_draw (d_var (pv 0)) (pv 1) (a_cons d_int a_nil))) (d_r d_int) (nomark _))))) (s_one (s_app (ps_expr (pe_bm PySem.F.plainAttrs_list PySem.F.slot_list_append PySem.F.type_list_append mt_append (pv 6) (pa_cons (d_tup (a_cons (d_var (pv 7)) (a_cons (d_callT ok__law_pick (hr.mono (by decide : 2 ≤ 3)) rfl mg__law_pick kp__law_pick bd__law_pick (d_var (pv 0)) (pv 1) (a_cons (d_frz (l_lst (a_cons d_int (a_cons d_int (a_cons d_int (a_cons d_int (a_cons d_int (a_cons d_int (a_cons (d_bin op_mulD (d_r d_int) (d_r (d_var (pv 8)))) a_nil))))))))) a_nil)) a_nil))) pa_nil))))) s_nil)))
    (s_one (s_ret (d_tup (a_cons d_str (a_cons (d_var (pv 4)) (a_cons (d_callTy ct_tuple rfl g.tuple_ (by decide +kernel) (r_cons (d_bor (pv 6)) r_nil)) a_nil)))))))))))

theorem sc__law_ladder : FnScope ["script", "town", "most", "holders", "rungs", "k"] ["script", "town", "most"] (defScope (top 92)) := ⟨rfl, rfl, rfl, by decide +kernel, rfl, by decide +kernel, by decide +kernel⟩
theorem cal__law_ladder {P : Program} {w : World} {K : PySem.W.Frag} {mg : Str → Option Value} {base : Heap} (g : Glob K mg) (F : ∃ f fd, FnP K "_law_ladder" (top 92) f fd ∧ mg "_law_ladder" = some (.ref f)) (c__law_draw : CalT P w K mg base "_law_draw" 1 1 ["script", "town", "limit"] F__law_draw) (c__law_rung : CalT P w K mg base "_law_rung" 4 2 ["script", "town", "holders", "kind"] F__law_rung) : CalT P w K mg base "_law_ladder" 5 1 ["script", "town", "most"] F__law_ladder := by
  obtain ⟨f, fd, F, hm⟩ := F
  obtain ⟨f__law_draw, fd__law_draw, ok__law_draw, mg__law_draw, kp__law_draw, bd__law_draw⟩ := c__law_draw
  obtain ⟨f__law_rung, fd__law_rung, ok__law_rung, mg__law_rung, kp__law_rung, bd__law_rung⟩ := c__law_rung
  refine ⟨f, fd, ?_, hm, F.kp, F.bindsN fun _ _ _ _ _ _ us hl => match us, hl with | [_, _, _], _ => rfl⟩
  have sc := sc__law_ladder
  refine fn_T (toFun F) sc rfl fun cdv A outer s H E hr => ?_
  have hu := units64 hr
  have hu5 := units65 hr
  have hu1 := units1 hr
  exact (s_cons (s_asg (ps_set (i := 3) sc.nd rfl (Or.inr rfl) (d_bin op_addD (d_r d_int) (d_r (d_callT ok__law_draw (hr.mono (by decide : 1 ≤ 4)) rfl mg__law_draw kp__law_draw bd__law_draw (d_var (pv 0)) (pv 1) (a_cons (d_var (pv 2)) a_nil))))))
    (s_cons (s_asg (as_frz (as_comp (by decide) (ps_setLc (own := [("k", 5)]) (i := 4) rfl sc.nd rfl rfl (sw_true rfl rfl rfl (by decide +kernel)) (i_rng rfl g.range_ (a_cons (d_callT ok__law_draw (hr.mono (by decide : 1 ≤ 4)) rfl mg__law_draw kp__law_draw bd__law_draw (d_var (pv 0)) (pv 1) (a_cons d_int a_nil)) a_nil)) (blkOk_by (own := [("k", 5)]) (N := ["script", "town", "most", "holders", "rungs", "k"]) (sc := defScope (top 92)) (by decide +kernel)) (fun _ _ _ _ _ => (g_name (pg_name (i := 5) sc.nd rfl (Or.inl rfl)))) (fun _ _ _ _ _ => t_yes) (fun _ _ _ _ _ => (d_callT ok__law_rung (hr.mono (by decide : 4 ≤ 4)) rfl mg__law_rung kp__law_rung bd__law_rung (d_var (pv 0)) (pv 1) (a_cons (d_var (pv 3)) (a_cons (d_callT ok__law_draw (hr.mono (by decide : 1 ≤ 4)) rfl mg__law_draw kp__law_draw bd__law_draw (d_var (pv 0)) (pv 1) (a_cons d_int a_nil)) a_nil))))))))
    (s_one (s_ret (d_tup (a_cons (d_var (pv 3)) (a_cons (d_bin op_addD (d_r (d_callTy ct_tuple rfl g.tuple_ (by decide +kernel) (r_cons (d_r (d_var (pv 4))) r_nil))) (d_r (d_tup (a_cons (d_callT ok__law_rung (hr.mono (by decide : 4 ≤ 4)) rfl mg__law_rung kp__law_rung bd__law_rung (d_var (pv 0)) (pv 1) (a_cons (d_var (pv 3)) (a_cons d_int a_nil))) a_nil)))) a_nil)))))))

theorem sc__law_call : FnScope ["way", "arguments", "one", "two", "three", "asked"] ["way", "arguments"] (defScope (top 93)) := ⟨rfl, rfl, rfl, by decide +kernel, rfl, by decide +kernel, by decide +kernel⟩
theorem cal__law_call {P : Program} {w : World} {K : PySem.W.Frag} {mg : Str → Option Value} {base : Heap} (g : Glob K mg) (F : ∃ f fd, FnP K "_law_call" (top 93) f fd ∧ mg "_law_call" = some (.ref f)) (c_X_is_settled : CalX P w K mg base "is_settled" 11 4 ["ladder", "options", "amount", "choice"] F_X_is_settled) (c_X_reached : CalX P w K mg base "reached" 6 1 ["ladder"] F_X_reached) (c_X_pay_next : CalX P w K mg base "pay_next" 10 3 ["ladder", "start", "amount"] F_X_pay_next) (c_X_least_amount : CalX P w K mg base "least_amount" 9 3 ["ladder", "holder", "goal"] F_X_least_amount) (c_X_rate_after : CalX P w K mg base "rate_after" 9 3 ["ladder", "holder", "amount"] F_X_rate_after) (c_X_greatest_part : CalX P w K mg base "greatest_part" 10 3 ["ladder", "holder", "start"] F_X_greatest_part) (c_X_least_part : CalX P w K mg base "least_part" 10 3 ["ladder", "holder", "start"] F_X_least_part) (c_X_gains : CalX P w K mg base "gains" 10 3 ["one", "other", "holder"] F_X_gains) (c_X_joined : CalX P w K mg base "joined" 6 3 ["ladder", "first", "second"] F_X_joined) (c_X_needed_for : CalX P w K mg base "needed_for" 6 2 ["ladder", "number"] F_X_needed_for) (c_X_pay : CalX P w K mg base "pay" 10 2 ["ladder", "amount"] F_X_pay) (c_X_pay_rungs : CalX P w K mg base "pay_rungs" 8 2 ["ladder", "amount"] F_X_pay_rungs) (c_X_bends : CalX P w K mg base "bends" 9 2 ["ladder", "holder"] F_X_bends) (c_X_are_alike : CalX P w K mg base "are_alike" 11 2 ["one", "other"] F_X_are_alike) (c_X_parting_after : CalX P w K mg base "parting_after" 11 2 ["one", "other"] F_X_parting_after) (c_X_changed : CalX P w K mg base "changed" 7 3 ["ladder", "options", "choice"] F_X_changed) (c_X_settled : CalX P w K mg base "settled" 11 3 ["ladder", "options", "amount"] F_X_settled) : CalX P w K mg base "_law_call" 12 2 ["way", "arguments"] F__law_call := by
  obtain ⟨f, fd, F, hm⟩ := F
  obtain ⟨f_X_is_settled, fd_X_is_settled, ok_X_is_settled, mg_X_is_settled, kp_X_is_settled, bd_X_is_settled⟩ := c_X_is_settled
  obtain ⟨f_X_reached, fd_X_reached, ok_X_reached, mg_X_reached, kp_X_reached, bd_X_reached⟩ := c_X_reached
  obtain ⟨f_X_pay_next, fd_X_pay_next, ok_X_pay_next, mg_X_pay_next, kp_X_pay_next, bd_X_pay_next⟩ := c_X_pay_next
  obtain ⟨f_X_least_amount, fd_X_least_amount, ok_X_least_amount, mg_X_least_amount, kp_X_least_amount, bd_X_least_amount⟩ := c_X_least_amount
  obtain ⟨f_X_rate_after, fd_X_rate_after, ok_X_rate_after, mg_X_rate_after, kp_X_rate_after, bd_X_rate_after⟩ := c_X_rate_after
  obtain ⟨f_X_greatest_part, fd_X_greatest_part, ok_X_greatest_part, mg_X_greatest_part, kp_X_greatest_part, bd_X_greatest_part⟩ := c_X_greatest_part
  obtain ⟨f_X_least_part, fd_X_least_part, ok_X_least_part, mg_X_least_part, kp_X_least_part, bd_X_least_part⟩ := c_X_least_part
  obtain ⟨f_X_gains, fd_X_gains, ok_X_gains, mg_X_gains, kp_X_gains, bd_X_gains⟩ := c_X_gains
  obtain ⟨f_X_joined, fd_X_joined, ok_X_joined, mg_X_joined, kp_X_joined, bd_X_joined⟩ := c_X_joined
  obtain ⟨f_X_needed_for, fd_X_needed_for, ok_X_needed_for, mg_X_needed_for, kp_X_needed_for, bd_X_needed_for⟩ := c_X_needed_for
  obtain ⟨f_X_pay, fd_X_pay, ok_X_pay, mg_X_pay, kp_X_pay, bd_X_pay⟩ := c_X_pay
  obtain ⟨f_X_pay_rungs, fd_X_pay_rungs, ok_X_pay_rungs, mg_X_pay_rungs, kp_X_pay_rungs, bd_X_pay_rungs⟩ := c_X_pay_rungs
  obtain ⟨f_X_bends, fd_X_bends, ok_X_bends, mg_X_bends, kp_X_bends, bd_X_bends⟩ := c_X_bends
  obtain ⟨f_X_are_alike, fd_X_are_alike, ok_X_are_alike, mg_X_are_alike, kp_X_are_alike, bd_X_are_alike⟩ := c_X_are_alike
  obtain ⟨f_X_parting_after, fd_X_parting_after, ok_X_parting_after, mg_X_parting_after, kp_X_parting_after, bd_X_parting_after⟩ := c_X_parting_after
  obtain ⟨f_X_changed, fd_X_changed, ok_X_changed, mg_X_changed, kp_X_changed, bd_X_changed⟩ := c_X_changed
  obtain ⟨f_X_settled, fd_X_settled, ok_X_settled, mg_X_settled, kp_X_settled, bd_X_settled⟩ := c_X_settled
  refine ⟨f, fd, ?_, hm, F.kp, F.bindsN fun _ _ _ _ _ _ us hl => match us, hl with | [_, _], _ => rfl⟩
  have sc := sc__law_call
  refine fn_X (toFun F) sc rfl fun cdv A outer s H E hr => ?_
  have hu := units64 hr
  have hu5 := units65 hr
  have hu1 := units1 hr
  exact (s_cons (s_asgG (ps_asg (d_slice (d_r (d_var (pv 1))) o_none (o_some d_int)) (g_tup rfl (gs_cons (g_name (pg_name (i := 2) sc.nd rfl (Or.inl rfl))) (gs_cons (g_name (pg_name (i := 3) sc.nd rfl (Or.inl rfl))) (gs_cons (g_name (pg_name (i := 4) sc.nd rfl (Or.inl rfl))) gs_nil))))))
    (s_cons (s_if (c_cmp (op_eqQ hu) (d_r (d_var (pv 0))) (d_r d_int) (nomark _)) (s_one (s_ret (d_callE ok_X_reached (hr.mono (by decide : 6 ≤ 11)) rfl mg_X_reached kp_X_reached bd_X_reached tkOf (a_cons (d_var (pv 2)) a_nil)))) s_nil)
    (s_cons (s_if (c_cmp op_ltD (d_r (d_var (pv 0))) (d_r d_int) (nomark _)) (s_one (s_ret (d_callIx (.cons ok_X_needed_for (hr.mono (by decide : 6 ≤ 11)) rfl mg_X_needed_for kp_X_needed_for bd_X_needed_for (by decide) (.cons ok_X_pay (hr.mono (by decide : 10 ≤ 11)) rfl mg_X_pay kp_X_pay bd_X_pay (by decide) (.cons ok_X_pay_rungs (hr.mono (by decide : 8 ≤ 11)) rfl mg_X_pay_rungs kp_X_pay_rungs bd_X_pay_rungs (by decide) (.cons ok_X_bends (hr.mono (by decide : 9 ≤ 11)) rfl mg_X_bends kp_X_bends bd_X_bends (by decide) .nil)))) tkOf (d_bin op_subD (d_r (d_var (pv 0))) (d_r d_int)) (fun _ _ => rfl) (a_cons (d_var (pv 2)) (a_cons (d_var (pv 3)) a_nil)) (Nat.le_of_ble_eq_true rfl)))) s_nil)
    (s_cons (s_if (c_cmp op_ltD (d_r (d_var (pv 0))) (d_r d_int) (nomark _)) (s_askd (i := 5) (.cons ok_X_pay_next (hr.mono (by decide : 10 ≤ 11)) rfl mg_X_pay_next kp_X_pay_next bd_X_pay_next (by decide) (.cons ok_X_least_amount (hr.mono (by decide : 9 ≤ 11)) rfl mg_X_least_amount kp_X_least_amount bd_X_least_amount (by decide) (.cons ok_X_rate_after (hr.mono (by decide : 9 ≤ 11)) rfl mg_X_rate_after kp_X_rate_after bd_X_rate_after (by decide) (.cons ok_X_greatest_part (hr.mono (by decide : 10 ≤ 11)) rfl mg_X_greatest_part kp_X_greatest_part bd_X_greatest_part (by decide) (.cons ok_X_least_part (hr.mono (by decide : 10 ≤ 11)) rfl mg_X_least_part kp_X_least_part bd_X_least_part (by decide) (.cons ok_X_gains (hr.mono (by decide : 10 ≤ 11)) rfl mg_X_gains kp_X_gains bd_X_gains (by decide) (.cons ok_X_joined (hr.mono (by decide : 6 ≤ 11)) rfl mg_X_joined kp_X_joined bd_X_joined (by decide) .nil))))))) tkOf sc.nd rfl (Or.inl rfl) (pv 5) (d_bin op_subD (d_r (d_var (pv 0))) (d_r d_int)) (fun _ _ => rfl) (a_cons (d_var (pv 2)) (a_cons (d_var (pv 3)) (a_cons (d_var (pv 4)) a_nil))) (Nat.le_of_ble_eq_true rfl)) s_nil)
    (s_cons (s_if (c_cmp op_ltD (d_r (d_var (pv 0))) (d_r d_int) (nomark _)) (s_one (s_ret (d_callIx (.cons ok_X_are_alike (hr.mono (by decide : 11 ≤ 11)) rfl mg_X_are_alike kp_X_are_alike bd_X_are_alike (by decide) (.cons ok_X_parting_after (hr.mono (by decide : 11 ≤ 11)) rfl mg_X_parting_after kp_X_parting_after bd_X_parting_after (by decide) .nil)) tkOf (d_bin op_subD (d_r (d_var (pv 0))) (d_r d_int)) (fun _ _ => rfl) (a_cons (d_var (pv 2)) (a_cons (d_var (pv 3)) a_nil)) (Nat.le_of_ble_eq_true rfl)))) s_nil)
    (s_cons (s_if (c_cmp op_ltD (d_r (d_var (pv 0))) (d_r d_int) (nomark _)) (s_one (s_ret (d_callIx (.cons ok_X_changed (hr.mono (by decide : 7 ≤ 11)) rfl mg_X_changed kp_X_changed bd_X_changed (by decide) (.cons ok_X_settled (hr.mono (by decide : 11 ≤ 11)) rfl mg_X_settled kp_X_settled bd_X_settled (by decide) .nil)) tkOf (d_bin op_subD (d_r (d_var (pv 0))) (d_r d_int)) (fun _ _ => rfl) (a_cons (d_var (pv 2)) (a_cons (d_var (pv 3)) (a_cons (d_var (pv 4)) a_nil))) (Nat.le_of_ble_eq_true rfl)))) s_nil)
    (s_one (s_ret (d_callE ok_X_is_settled (hr.mono (by decide : 11 ≤ 11)) rfl mg_X_is_settled kp_X_is_settled bd_X_is_settled tkOf (a_cons (d_var (pv 2)) (a_cons (d_var (pv 3)) (a_cons (d_var (pv 4)) (a_cons (d_ix ix_D (d_r (d_var (pv 1))) (d_r d_int) (fun _ _ => rfl)) a_nil)))))))))))))

theorem sc__law_bads : FnScope ["last", "rungs", "bads", "rung"] [] (defScope (top 94)) := ⟨rfl, rfl, rfl, by decide +kernel, rfl, by decide +kernel, by decide +kernel⟩
theorem cal__law_bads {P : Program} {w : World} {K : PySem.W.Frag} {mg : Str → Option Value} {base : Heap} (g : Glob K mg) (F : ∃ f fd, FnP K "_law_bads" (top 94) f fd ∧ mg "_law_bads" = some (.ref f))  : CalP P w K mg base "_law_bads" 1 0 [] F__law_bads := by
  obtain ⟨f, fd, F, hm⟩ := F
  refine ⟨f, fd, ?_, hm, F.kp, F.bindsN fun _ _ _ _ _ _ us hl => match us, hl with | [], _ => rfl⟩
  have sc := sc__law_bads
  refine fn_P (toFun F) sc rfl fun cdv A outer s H E hr => ?_
  have hu := units64 hr
  have hu5 := units65 hr
  have hu1 := units1 hr
  exact (s_cons (s_asg (ps_set (i := 0) sc.nd rfl (Or.inr rfl) (d_tup (a_cons d_str (a_cons (d_tup (a_cons (d_tup (a_cons d_int (a_cons d_int a_nil))) a_nil)) (a_cons (d_tup a_nil) a_nil))))))
    (s_cons (s_own (ps_set (i := 1) sc.nd rfl (Or.inl rfl) (l_lst (a_cons d_non (a_cons (d_tup (a_cons d_str a_nil)) (a_cons (d_tup (a_cons d_str (a_cons (d_tup a_nil) a_nil))) (a_cons (d_tup (a_cons d_str (a_cons (d_tup (a_cons (d_tup (a_cons d_int (a_cons d_int a_nil))) a_nil)) a_nil))) (a_cons (d_tup (a_cons d_str (a_cons (d_tup (a_cons (d_tup (a_cons d_int (a_cons d_int a_nil))) a_nil)) a_nil))) (a_cons (d_tup (a_cons d_str (a_cons (d_tup (a_cons (d_tup (a_cons d_int (a_cons d_int a_nil))) a_nil)) a_nil))) a_nil)))))))))
    (s_cons (s_own (ps_set (i := 1) sc.nd rfl (Or.inl rfl) (l_bin op_addL (d_bor (pv 1)) (d_r (d_frz (l_lst (a_cons (d_tup (a_cons d_str (a_cons (d_tup (a_cons (d_tup (a_cons d_int (a_cons d_int a_nil))) a_nil)) a_nil))) (a_cons (d_tup (a_cons d_str (a_cons (d_tup (a_cons (d_tup (a_cons d_int (a_cons d_int a_nil))) (a_cons (d_tup (a_cons d_int (a_cons d_int a_nil))) a_nil))) a_nil))) (a_cons (d_tup (a_cons d_str (a_cons (d_tup (a_cons (d_tup (a_cons d_int (a_cons d_int a_nil))) (a_cons (d_tup (a_cons d_int (a_cons d_int a_nil))) a_nil))) a_nil))) a_nil)))))))))
    (s_cons (s_own (ps_set (i := 1) sc.nd rfl (Or.inl rfl) (l_bin op_addL (d_bor (pv 1)) (d_r (d_frz (l_lst (a_cons (d_tup (a_cons d_str (a_cons (d_frz (l_lst (a_cons (d_tup (a_cons d_int (a_cons d_int a_nil))) a_nil))) a_nil))) (a_cons (d_tup (a_cons d_str (a_cons (d_tup (a_cons (d_tup (a_cons d_int (a_cons d_bl a_nil))) a_nil)) a_nil))) a_nil))))))))
    (s_cons (s_own (ps_set (i := 1) sc.nd rfl (Or.inl rfl) (l_bin op_addL (d_bor (pv 1)) (d_r (d_frz (l_lst (a_cons (d_tup (a_cons d_str (a_cons (d_tup (a_cons (d_tup (a_cons d_int (a_cons d_int a_nil))) a_nil)) a_nil))) (a_cons (d_tup (a_cons d_str (a_cons (d_tup a_nil) (a_cons (d_tup a_nil) a_nil)))) (a_cons (d_tup (a_cons d_str (a_cons (d_tup (a_cons (d_tup (a_cons d_int (a_cons d_int a_nil))) a_nil)) (a_cons (d_tup a_nil) a_nil)))) a_nil)))))))))
    (s_cons (s_app (ps_expr (pe_bm PySem.F.plainAttrs_list PySem.F.slot_list_append PySem.F.type_list_append mt_append (pv 1) (pa_cons (d_tup (a_cons d_str (a_cons (d_tup (a_cons (d_tup (a_cons d_int (a_cons d_int a_nil))) a_nil)) (a_cons (d_tup (a_cons (d_tup (a_cons d_int (a_cons d_int a_nil))) a_nil)) a_nil)))) pa_nil))))
    (s_cons (s_own (ps_set (i := 1) sc.nd rfl (Or.inl rfl) (l_bin op_addL (d_bor (pv 1)) (d_r (d_frz (l_lst (a_cons (d_frz (l_lst (a_cons d_str (a_cons (d_tup (a_cons (d_tup (a_cons d_int (a_cons d_int a_nil))) a_nil)) a_nil)))) (a_cons (d_tup (a_cons d_str (a_cons (d_tup (a_cons (d_tup (a_cons d_int (a_cons d_int a_nil))) a_nil)) (a_cons (d_tup (a_cons (d_tup (a_cons d_int (a_cons d_int a_nil))) a_nil)) a_nil)))) (a_cons (d_tup (a_cons d_str (a_cons (d_tup (a_cons (d_tup (a_cons d_int (a_cons d_int a_nil))) a_nil)) (a_cons d_non a_nil)))) a_nil)))))))))
    (s_cons (s_app (ps_expr (pe_bm PySem.F.plainAttrs_list PySem.F.slot_list_append PySem.F.type_list_append mt_append (pv 1) (pa_cons (d_tup (a_cons d_str (a_cons (d_tup (a_cons (d_tup (a_cons d_int (a_cons d_int a_nil))) a_nil)) (a_cons (d_tup a_nil) a_nil)))) pa_nil))))
    (s_cons (s_asg (ps_set (i := 2) sc.nd rfl (Or.inl rfl) (d_frz (l_lst (a_cons d_non (a_cons d_int (a_cons (d_tup a_nil) (a_cons (d_tup (a_cons d_int a_nil)) (a_cons (d_tup (a_cons d_int (a_cons (d_tup (a_cons (d_var (pv 0)) a_nil)) a_nil))) (a_cons (d_tup (a_cons d_int (a_cons (d_tup (a_cons (d_var (pv 0)) a_nil)) a_nil))) (a_cons (d_tup (a_cons d_bl (a_cons (d_tup (a_cons (d_var (pv 0)) a_nil)) a_nil))) (a_cons (d_tup (a_cons d_int (a_cons (d_tup a_nil) a_nil))) (a_cons (d_tup (a_cons d_int (a_cons (d_frz (l_lst (a_cons (d_var (pv 0)) a_nil))) a_nil))) (a_cons (d_tup (a_cons d_int (a_cons (d_bin op_mulD (d_r (d_tup (a_cons (d_var (pv 0)) a_nil))) (d_r d_int)) a_nil))) a_nil))))))))))))))
    (s_cons (s_asg (ps_set (i := 2) sc.nd rfl (Or.inl rfl) (d_bin op_addD (d_r (d_var (pv 2))) (d_r (d_frz (l_lst (a_cons (d_frz (l_lst (a_cons d_int (a_cons (d_tup (a_cons (d_var (pv 0)) a_nil)) a_nil)))) (a_cons (d_tup (a_cons d_int (a_cons (d_tup (a_cons (d_tup (a_cons d_str (a_cons (d_tup (a_cons (d_tup (a_cons d_int (a_cons d_int a_nil))) a_nil)) a_nil))) a_nil)) a_nil))) (a_cons (d_tup (a_cons d_int (a_cons (d_tup (a_cons (d_tup (a_cons d_str (a_cons (d_tup (a_cons (d_tup (a_cons d_int (a_cons d_int a_nil))) a_nil)) (a_cons (d_tup (a_cons (d_tup (a_cons d_int (a_cons d_int a_nil))) a_nil)) a_nil)))) a_nil)) a_nil))) a_nil)))))))))
    (s_cons (s_asg (ps_set (i := 2) sc.nd rfl (Or.inl rfl) (d_bin op_addD (d_r (d_var (pv 2))) (d_r (d_frz (l_lst (a_cons (d_tup (a_cons d_int (a_cons (d_tup (a_cons (d_var (pv 0)) a_nil)) (a_cons (d_tup a_nil) a_nil)))) (a_cons d_str a_nil))))))))
    (s_one (s_frz 1 (s_ret (d_bin op_addD (d_r (d_var (pv 2))) (d_r (d_frz (l_comp (own := [("rung", 3)]) rfl sc.nd (i_seq (d_var (pv 1))) (blkOk_by (own := [("rung", 3)]) (N := ["last", "rungs", "bads", "rung"]) (sc := defScope (top 94)) (by decide +kernel)) (fun _ _ _ _ _ => (g_name (pg_name (i := 3) sc.nd rfl (Or.inl rfl)))) (fun _ _ _ _ _ => t_yes) (fun _ _ _ _ _ => (d_tup (a_cons d_int (a_cons (d_tup (a_cons (d_var (pv 3)) (a_cons (d_var (pv 0)) a_nil))) a_nil)))) (by decide)))))))))))))))))))

theorem sc__law_wrongs : FnScope ["rows", "bad", "bads", "way"] [] (defScope (top 95)) := ⟨rfl, rfl, rfl, by decide +kernel, rfl, by decide +kernel, by decide +kernel⟩
theorem cal__law_wrongs {P : Program} {w : World} {K : PySem.W.Frag} {mg : Str → Option Value} {base : Heap} (g : Glob K mg) (F : ∃ f fd, FnP K "_law_wrongs" (top 95) f fd ∧ mg "_law_wrongs" = some (.ref f))  : CalP P w K mg base "_law_wrongs" 1 0 [] F__law_wrongs := by
  obtain ⟨f, fd, F, hm⟩ := F
  refine ⟨f, fd, ?_, hm, F.kp, F.bindsN fun _ _ _ _ _ _ us hl => match us, hl with | [], _ => rfl⟩
  have sc := sc__law_wrongs
  refine fn_P (toFun F) sc rfl fun cdv A outer s H E hr => ?_
  have hu := units64 hr
  have hu5 := units65 hr
  have hu1 := units1 hr
  exact (s_cons (s_own (ps_set (i := 0) sc.nd rfl (Or.inl rfl) (l_lst a_nil)))
    (s_cons (s_for PassesOwn.never rfl (i_seq (d_tup (a_cons (d_un un_negD (d_r d_int)) (a_cons d_int (a_cons d_bl (a_cons d_non (a_cons d_str (a_cons (d_tup (a_cons d_int a_nil)) a_nil)))))))) (g_name (pg_name (i := 1) sc.nd rfl (Or.inr rfl))) (s_cons (s_own (ps_set (i := 0) sc.nd rfl (Or.inl rfl) (l_bin op_addL (d_r (d_bin op_addD (d_bor (pv 0)) (d_r (d_frz (l_comp (own := [("way", 3)]) rfl sc.nd (i_seq (d_tup (a_cons d_int (a_cons d_int (a_cons d_int (a_cons d_int (a_cons d_int (a_cons d_int a_nil)))))))) (blkOk_by (own := [("way", 3)]) (N := ["rows", "bad", "bads", "way"]) (sc := defScope (top 95)) (by decide +kernel)) (fun _ _ _ _ _ => (g_name (pg_name (i := 3) sc.nd rfl (Or.inl rfl)))) (fun _ _ _ _ _ => t_yes) (fun _ _ _ _ _ => (d_tup (a_cons (d_var (pv 3)) (a_cons (d_var (pv 1)) (a_cons (d_var (pv 1)) (a_cons d_str a_nil)))))) (by decide)))))) (d_r (d_frz (l_lst (a_cons (d_tup (a_cons d_int (a_cons d_int (a_cons (d_var (pv 1)) (a_cons d_str a_nil))))) a_nil)))))))
    (s_one (s_app (ps_expr (pe_bm PySem.F.plainAttrs_list PySem.F.slot_list_append PySem.F.type_list_append mt_append (pv 0) (pa_cons (d_tup (a_cons d_int (a_cons (d_var (pv 1)) (a_cons d_int (a_cons d_str a_nil))))) pa_nil)))))))
    (s_cons (s_asg (ps_set (i := 2) sc.nd rfl (Or.inl rfl) (d_frz (l_lst (a_cons d_non (a_cons d_int (a_cons (d_tup (a_cons d_int a_nil)) (a_cons (d_tup (a_cons d_int (a_cons d_int a_nil))) (a_cons (d_tup (a_cons (d_un un_negD (d_r d_int)) (a_cons d_int a_nil))) (a_cons (d_tup (a_cons d_int (a_cons d_int a_nil))) (a_cons (d_tup (a_cons d_int (a_cons d_int a_nil))) (a_cons (d_tup (a_cons d_int (a_cons d_int a_nil))) (a_cons (d_frz (l_lst (a_cons d_int (a_cons d_int a_nil)))) (a_cons (d_tup (a_cons d_bl (a_cons d_int a_nil))) (a_cons (d_tup (a_cons d_str (a_cons d_int a_nil))) a_nil)))))))))))))))
    (s_cons (s_for PassesOwn.never rfl (i_seq (d_bin op_addD (d_r (d_var (pv 2))) (d_r (d_frz (l_lst (a_cons (d_tup (a_cons d_int (a_cons d_int (a_cons d_int a_nil)))) a_nil)))))) (g_name (pg_name (i := 1) sc.nd rfl (Or.inr rfl))) (s_cons (s_own (ps_set (i := 0) sc.nd rfl (Or.inl rfl) (l_bin op_addL (d_r (d_bin op_addD (d_bor (pv 0)) (d_r (d_frz (l_comp (own := [("way", 3)]) rfl sc.nd (i_seq (d_tup (a_cons d_int (a_cons d_int (a_cons d_int a_nil))))) (blkOk_by (own := [("way", 3)]) (N := ["rows", "bad", "bads", "way"]) (sc := defScope (top 95)) (by decide +kernel)) (fun _ _ _ _ _ => (g_name (pg_name (i := 3) sc.nd rfl (Or.inl rfl)))) (fun _ _ _ _ _ => t_yes) (fun _ _ _ _ _ => (d_tup (a_cons (d_var (pv 3)) (a_cons (d_var (pv 1)) (a_cons (d_var (pv 1)) (a_cons d_str a_nil)))))) (by decide)))))) (d_r (d_frz (l_lst (a_cons (d_tup (a_cons d_int (a_cons (d_tup (a_cons d_int (a_cons d_int a_nil))) (a_cons (d_var (pv 1)) (a_cons d_str a_nil))))) a_nil)))))))
    (s_one (s_own (ps_set (i := 0) sc.nd rfl (Or.inl rfl) (l_bin op_addL (d_r (d_bin op_addD (d_bor (pv 0)) (d_r (d_frz (l_comp (own := [("way", 3)]) rfl sc.nd (i_seq (d_tup (a_cons d_int (a_cons d_int (a_cons d_int a_nil))))) (blkOk_by (own := [("way", 3)]) (N := ["rows", "bad", "bads", "way"]) (sc := defScope (top 95)) (by decide +kernel)) (fun _ _ _ _ _ => (g_name (pg_name (i := 3) sc.nd rfl (Or.inl rfl)))) (fun _ _ _ _ _ => t_yes) (fun _ _ _ _ _ => (d_tup (a_cons (d_var (pv 3)) (a_cons d_int (a_cons (d_var (pv 1)) (a_cons d_str a_nil)))))) (by decide)))))) (d_r (d_frz (l_lst (a_cons (d_tup (a_cons d_int (a_cons d_int (a_cons (d_var (pv 1)) (a_cons d_str a_nil))))) a_nil))))))))))
    (s_one (s_ret (d_bin op_addD (d_bor (pv 0)) (d_r (d_frz (l_lst (a_cons (d_tup (a_cons d_int (a_cons d_int (a_cons (d_tup (a_cons d_int (a_cons d_int a_nil))) (a_cons d_str a_nil))))) (a_cons (d_tup (a_cons d_int (a_cons d_int (a_cons (d_tup (a_cons d_int (a_cons d_int a_nil))) (a_cons d_str a_nil))))) (a_cons (d_tup (a_cons d_int (a_cons d_int (a_cons d_int (a_cons d_str a_nil))))) (a_cons (d_tup (a_cons d_int (a_cons d_int (a_cons d_int (a_cons d_str a_nil))))) a_nil))))))))))))))

theorem sc_law : FnScope ["script", "town", "ladder", "last", "goods", "bad", "way", "plain", "k", "amounts", "two", "three", "name", "good", "one"] ["script"] (defScope (top 96)) := ⟨rfl, rfl, rfl, by decide +kernel, rfl, by decide +kernel, by decide +kernel⟩
theorem ok_law {P : Program} {w : World} {K : PySem.W.Frag} {mg : Str → Option Value} {base : Heap} {f : Addr} {fd : FuncData} (g : Glob K mg) (F : FnP K "law" (top 96) f fd) (c__law_town : CalL P w K mg base "_law_town" 1 1 ["script"] F__law_town) (c__law_ladder : CalT P w K mg base "_law_ladder" 5 1 ["script", "town", "most"] F__law_ladder) (c__law_pick : CalT P w K mg base "_law_pick" 2 1 ["script", "town", "choices"] F__law_pick) (c__law_bads : CalP P w K mg base "_law_bads" 1 0 [] F__law_bads) (c__law_outcome : CalP P w K mg base "_law_outcome" 13 2 ["way", "arguments"] F__law_outcome) (c__law_raises : CalP P w K mg base "_law_raises" 1 1 ["name"] F__law_raises) (c__law_wrongs : CalP P w K mg base "_law_wrongs" 1 0 [] F__law_wrongs) (c_is_amount : CalP P w K mg base "is_amount" 2 1 ["value"] F_is_amount) (c_pay : CalP P w K mg base "pay" 10 2 ["ladder", "amount"] F_pay) (c_is_ladder : CalP P w K mg base "is_ladder" 4 1 ["value"] F_is_ladder) : FnOk P w K mg base CX0 14 f fd ["script"] (spP K 1 F_law) := by
  obtain ⟨f__law_town, fd__law_town, ok__law_town, mg__law_town, kp__law_town, bd__law_town⟩ := c__law_town
  obtain ⟨f__law_ladder, fd__law_ladder, ok__law_ladder, mg__law_ladder, kp__law_ladder, bd__law_ladder⟩ := c__law_ladder
  obtain ⟨f__law_pick, fd__law_pick, ok__law_pick, mg__law_pick, kp__law_pick, bd__law_pick⟩ := c__law_pick
  obtain ⟨f__law_bads, fd__law_bads, ok__law_bads, mg__law_bads, kp__law_bads, bd__law_bads⟩ := c__law_bads
  obtain ⟨f__law_outcome, fd__law_outcome, ok__law_outcome, mg__law_outcome, kp__law_outcome, bd__law_outcome⟩ := c__law_outcome
  obtain ⟨f__law_raises, fd__law_raises, ok__law_raises, mg__law_raises, kp__law_raises, bd__law_raises⟩ := c__law_raises
  obtain ⟨f__law_wrongs, fd__law_wrongs, ok__law_wrongs, mg__law_wrongs, kp__law_wrongs, bd__law_wrongs⟩ := c__law_wrongs
  obtain ⟨f_is_amount, fd_is_amount, ok_is_amount, mg_is_amount, kp_is_amount, bd_is_amount⟩ := c_is_amount
  obtain ⟨f_pay, fd_pay, ok_pay, mg_pay, kp_pay, bd_pay⟩ := c_pay
  obtain ⟨f_is_ladder, fd_is_ladder, ok_is_ladder, mg_is_ladder, kp_is_ladder, bd_is_ladder⟩ := c_is_ladder
  have sc := sc_law
  refine fn_P (toFun F) sc rfl fun cdv A outer s H E hr => ?_
  have hu := units64 hr
  have hu5 := units65 hr
  have hu1 := units1 hr
  exact (s_cons (s_town (ps_set (i := 1) sc.nd rfl (Or.inl rfl) (l_call ok__law_town (hr.mono (by decide : 1 ≤ 13)) rfl mg__law_town kp__law_town bd__law_town (a_cons (d_var (pv 0)) a_nil))))
    (s_cons (s_asg (ps_set (i := 2) sc.nd rfl (Or.inl rfl) (d_callT ok__law_ladder (hr.mono (by decide : 5 ≤ 13)) rfl mg__law_ladder kp__law_ladder bd__law_ladder (d_var (pv 0)) (pv 1) (a_cons d_int a_nil))))
    (s_cons (s_asg (ps_set (i := 3) sc.nd rfl (Or.inl rfl) (d_tup (a_cons d_str (a_cons (d_tup (a_cons (d_tup (a_cons d_int (a_cons d_int a_nil))) a_nil)) (a_cons (d_tup a_nil) a_nil))))))
    (s_cons (s_own (ps_set (i := 4) sc.nd rfl (Or.inl rfl) (l_lst (a_cons (d_var (pv 2)) (a_cons (d_tup (a_cons d_int (a_cons (d_tup (a_cons (d_var (pv 3)) a_nil)) a_nil))) (a_cons (d_tup (a_cons d_int (a_cons (d_bin op_addD (d_r (d_bin op_mulD (d_r (d_tup (a_cons (d_tup (a_cons d_str (a_cons (d_tup (a_cons (d_tup (a_cons d_int (a_cons d_int a_nil))) a_nil)) a_nil))) a_nil))) (d_r d_int))) (d_r (d_tup (a_cons (d_var (pv 3)) a_nil)))) a_nil))) a_nil))))))
    (s_cons (s_app (ps_expr (pe_bm PySem.F.plainAttrs_list PySem.F.slot_list_append PySem.F.type_list_append mt_append (pv 4) (pa_cons (d_tup (a_cons d_int (a_cons (d_tup (a_cons (d_tup (a_cons d_str (a_cons (d_tup (a_cons (d_tup (a_cons d_int (a_cons d_int a_nil))) a_nil)) (a_cons (d_tup (a_cons (d_tup (a_cons d_int (a_cons d_int a_nil))) a_nil)) a_nil)))) (a_cons (d_var (pv 3)) a_nil))) a_nil))) pa_nil))))
    (s_cons (s_frz 4 (s_if (c_cmp (op_neQ hu) (d_r (d_frz (l_comp (own := [("good", 13)]) rfl sc.nd (i_seq (d_var (pv 4))) (blkOk_by (own := [("good", 13)]) (N := ["script", "town", "ladder", "last", "goods", "bad", "way", "plain", "k", "amounts", "two", "three", "name", "good", "one"]) (sc := defScope (top 96)) (by decide +kernel)) (fun _ _ _ _ _ => (g_name (pg_name (i := 13) sc.nd rfl (Or.inl rfl)))) (fun _ _ _ _ _ => (t_one (c_cmp op_isNotQ (d_r (d_call ok_is_ladder (hr.mono (by decide : 4 ≤ 13)) rfl mg_is_ladder kp_is_ladder bd_is_ladder (a_cons (d_var (pv 13)) a_nil))) (d_r d_bl) (nomark _)))) (fun _ _ _ _ _ => (d_var (pv 13))) (by decide)))) (d_r (d_frz (l_lst a_nil))) (nomark _)) (s_one (s_ret d_bl)) s_nil))
    (s_cons (s_if (c_cmp (op_neQ hu) (d_r (d_frz (l_comp (own := [("bad", 5)]) rfl sc.nd (i_seq (d_call0 ok__law_bads (hr.mono (by decide : 1 ≤ 13)) rfl mg__law_bads kp__law_bads bd__law_bads)) (blkOk_by (own := [("bad", 5)]) (N := ["script", "town", "ladder", "last", "goods", "bad", "way", "plain", "k", "amounts", "two", "three", "name", "good", "one"]) (sc := defScope (top 96)) (by decide +kernel)) (fun _ _ _ _ _ => (g_name (pg_name (i := 5) sc.nd rfl (Or.inl rfl)))) (fun _ _ _ _ _ => (t_one (c_cmp op_isNotQ (d_r (d_call ok_is_ladder (hr.mono (by decide : 4 ≤ 13)) rfl mg_is_ladder kp_is_ladder bd_is_ladder (a_cons (d_var (pv 5)) a_nil))) (d_r d_bl) (nomark _)))) (fun _ _ _ _ _ => (d_var (pv 5))) (by decide)))) (d_r (d_frz (l_lst a_nil))) (nomark _)) (s_one (s_ret d_bl)) s_nil)
    (s_cons (s_asg (ps_set (i := 5) sc.nd rfl (Or.inl rfl) (d_callT ok__law_pick (hr.mono (by decide : 2 ≤ 13)) rfl mg__law_pick kp__law_pick bd__law_pick (d_var (pv 0)) (pv 1) (a_cons (d_call0 ok__law_bads (hr.mono (by decide : 1 ≤ 13)) rfl mg__law_bads kp__law_bads bd__law_bads) a_nil))))
    (s_cons (s_for PassesOwn.never rfl (i_rng rfl g.range_ (a_cons d_int a_nil)) (g_name (pg_name (i := 6) sc.nd rfl (Or.inl rfl))) (s_one (s_if (c_cmp (op_neQ hu) (d_r (d_call ok__law_outcome (hr.mono (by decide : 13 ≤ 13)) rfl mg__law_outcome kp__law_outcome bd__law_outcome (a_cons (d_var (pv 6)) (a_cons (d_tup (a_cons (d_var (pv 5)) (a_cons d_non (a_cons d_non (a_cons d_non a_nil))))) a_nil)))) (d_r (d_call ok__law_raises (hr.mono (by decide : 1 ≤ 13)) rfl mg__law_raises kp__law_raises bd__law_raises (a_cons d_str a_nil))) (nomark _)) (s_one (s_ret d_bl)) s_nil)))
    (s_cons (s_for PassesOwn.never rfl (i_seq (d_tup (a_cons d_int (a_cons d_int (a_cons d_int a_nil))))) (g_name (pg_name (i := 6) sc.nd rfl (Or.inl rfl))) (s_one (s_if (c_cmp (op_neQ hu) (d_r (d_call ok__law_outcome (hr.mono (by decide : 13 ≤ 13)) rfl mg__law_outcome kp__law_outcome bd__law_outcome (a_cons (d_var (pv 6)) (a_cons (d_tup (a_cons (d_var (pv 2)) (a_cons (d_var (pv 5)) (a_cons d_non (a_cons d_non a_nil))))) a_nil)))) (d_r (d_call ok__law_raises (hr.mono (by decide : 1 ≤ 13)) rfl mg__law_raises kp__law_raises bd__law_raises (a_cons d_str a_nil))) (nomark _)) (s_one (s_ret d_bl)) s_nil)))
    (s_cons (s_asg (ps_set (i := 7) sc.nd rfl (Or.inl rfl) (d_tup (a_cons d_int (a_cons (d_tup (a_cons (d_tup (a_cons d_str (a_cons (d_tup (a_cons (d_tup (a_cons d_int (a_cons d_int a_nil))) a_nil)) a_nil))) (a_cons (d_tup (a_cons d_str (a_cons (d_tup (a_cons (d_tup (a_cons d_int (a_cons d_int a_nil))) (a_cons (d_tup (a_cons d_int (a_cons d_int a_nil))) a_nil))) (a_cons (d_tup a_nil) a_nil)))) a_nil))) a_nil)))))
    (s_cons (s_for PassesOwn.never rfl (i_rng rfl g.range_ (a_cons d_int a_nil)) (g_name (pg_name (i := 8) sc.nd rfl (Or.inl rfl))) (s_cons (s_asgG (ps_asg (d_callT ok__law_pick (hr.mono (by decide : 2 ≤ 13)) rfl mg__law_pick kp__law_pick bd__law_pick (d_var (pv 0)) (pv 1) (a_cons (d_call0 ok__law_wrongs (hr.mono (by decide : 1 ≤ 13)) rfl mg__law_wrongs kp__law_wrongs bd__law_wrongs) a_nil)) (g_tup rfl (gs_cons (g_name (pg_name (i := 6) sc.nd rfl (Or.inl rfl))) (gs_cons (g_name (pg_name (i := 10) sc.nd rfl (Or.inl rfl))) (gs_cons (g_name (pg_name (i := 11) sc.nd rfl (Or.inl rfl))) (gs_cons (g_name (pg_name (i := 12) sc.nd rfl (Or.inl rfl))) gs_nil)))))))
    (s_one (s_if (c_cmp (op_neQ hu) (d_r (d_call ok__law_outcome (hr.mono (by decide : 13 ≤ 13)) rfl mg__law_outcome kp__law_outcome bd__law_outcome (a_cons (d_var (pv 6)) (a_cons (d_tup (a_cons (d_var (pv 7)) (a_cons (d_var (pv 10)) (a_cons (d_var (pv 11)) a_nil)))) a_nil)))) (d_r (d_call ok__law_raises (hr.mono (by decide : 1 ≤ 13)) rfl mg__law_raises kp__law_raises bd__law_raises (a_cons (d_var (pv 12)) a_nil))) (nomark _)) (s_one (s_ret d_bl)) s_nil))))
    (s_cons (s_asg (ps_set (i := 9) sc.nd rfl (Or.inl rfl) (d_frz (l_lst (a_cons (d_tup (a_cons d_int (a_cons d_int a_nil))) (a_cons (d_tup (a_cons d_int (a_cons d_int a_nil))) (a_cons (d_tup (a_cons d_int (a_cons d_int a_nil))) (a_cons (d_tup (a_cons d_int (a_cons d_int a_nil))) a_nil))))))))
    (s_cons (s_if (PW.pt (c_or (c_cmp (op_neQ hu) (d_r (d_frz (l_comp (own := [("one", 14)]) rfl sc.nd (i_seq (d_var (pv 9))) (blkOk_by (own := [("one", 14)]) (N := ["script", "town", "ladder", "last", "goods", "bad", "way", "plain", "k", "amounts", "two", "three", "name", "good", "one"]) (sc := defScope (top 96)) (by decide +kernel)) (fun _ _ _ _ _ => (g_name (pg_name (i := 14) sc.nd rfl (Or.inl rfl)))) (fun _ _ _ _ _ => (t_one (c_cmp op_isNotQ (d_r (d_call ok_is_amount (hr.mono (by decide : 2 ≤ 13)) rfl mg_is_amount kp_is_amount bd_is_amount (a_cons (d_var (pv 14)) a_nil))) (d_r d_bl) (nomark _)))) (fun _ _ _ _ _ => (d_var (pv 14))) (by decide)))) (d_r (d_frz (l_lst a_nil))) (nomark _)) (c_or1 (c_cmp op_isNotQ (d_r (d_call ok_is_amount (hr.mono (by decide : 2 ≤ 13)) rfl mg_is_amount kp_is_amount bd_is_amount (a_cons (d_tup (a_cons d_int (a_cons d_int a_nil))) a_nil))) (d_r d_bl) (nomark _))))) (s_one (s_ret d_bl)) s_nil)
    (s_cons (s_if (c_cmp (op_neQ hu) (d_r (d_call ok__law_outcome (hr.mono (by decide : 13 ≤ 13)) rfl mg__law_outcome kp__law_outcome bd__law_outcome (a_cons d_int (a_cons (d_tup (a_cons (d_var (pv 7)) (a_cons (d_tup (a_cons d_int (a_cons (d_tup (a_cons (d_var (pv 3)) a_nil)) a_nil))) (a_cons d_non a_nil)))) a_nil)))) (d_r (d_call ok__law_raises (hr.mono (by decide : 1 ≤ 13)) rfl mg__law_raises kp__law_raises bd__law_raises (a_cons d_str a_nil))) (nomark _)) (s_one (s_ret d_bl)) s_nil)
    (s_one (s_ret (d_and (d_cmp (op_eqQ hu) (d_r (d_call ok__law_outcome (hr.mono (by decide : 13 ≤ 13)) rfl mg__law_outcome kp__law_outcome bd__law_outcome (a_cons d_int (a_cons (d_tup (a_cons (d_var (pv 7)) (a_cons (d_var (pv 7)) (a_cons d_int a_nil)))) a_nil)))) (d_r (d_call ok__law_raises (hr.mono (by decide : 1 ≤ 13)) rfl mg__law_raises kp__law_raises bd__law_raises (a_cons d_str a_nil))) (nomark _)) (d_one (d_cmp (op_eqQ hu) (d_r (d_call ok_pay (hr.mono (by decide : 10 ≤ 13)) rfl mg_pay kp_pay bd_pay (a_cons (d_var (pv 7)) (a_cons (d_tup (a_cons d_int (a_cons d_int a_nil))) a_nil)))) (d_r (d_tup (a_cons (d_tup (a_cons d_int (a_cons d_int a_nil))) (a_cons (d_tup (a_cons d_int (a_cons d_int a_nil))) a_nil)))) (nomark _)))))))))))))))))))))

theorem sc_X_check_ladder : FnScope ["value"] ["value"] (defScope (top 31)) := ⟨rfl, rfl, rfl, by decide +kernel, rfl, by decide +kernel, by decide +kernel⟩
theorem cal_X_check_ladder {P : Program} {w : World} {K : PySem.W.Frag} {mg : Str → Option Value} {base : Heap} (g : Glob K mg) (F : ∃ f fd, FnP K "check_ladder" (top 31) f fd ∧ mg "check_ladder" = some (.ref f)) (EF : ExF K mg) (c_is_ladder : CalP P w K mg base "is_ladder" 4 1 ["value"] F_is_ladder) : CalX P w K mg base "check_ladder" 5 1 ["value"] F_X_check_ladder := by
  obtain ⟨f, fd, F, hm⟩ := F
  obtain ⟨f_is_ladder, fd_is_ladder, ok_is_ladder, mg_is_ladder, kp_is_ladder, bd_is_ladder⟩ := c_is_ladder
  refine ⟨f, fd, ?_, hm, F.kp, F.bindsN fun _ _ _ _ _ _ us hl => match us, hl with | [_], _ => rfl⟩
  have sc := sc_X_check_ladder
  refine fn_X (toFun F) sc rfl fun cdv A outer s H E hr => ?_
  have hu := units64 hr
  have hu5 := units65 hr
  have hu1 := units1 hr
  exact (s_one (s_if (c_not (c_val (d_call ok_is_ladder (hr.mono (by decide : 4 ≤ 4)) rfl mg_is_ladder kp_is_ladder bd_is_ladder (a_cons (d_var (pv 0)) a_nil)))) (s_one (s_raise rfl tkOf (EF.oe "InvalidLadder" (by decide +kernel)) rfl)) s_nil))

theorem sc_X_check_holder : FnScope ["ladder", "holder"] ["ladder", "holder"] (defScope (top 32)) := ⟨rfl, rfl, rfl, by decide +kernel, rfl, by decide +kernel, by decide +kernel⟩
theorem cal_X_check_holder {P : Program} {w : World} {K : PySem.W.Frag} {mg : Str → Option Value} {base : Heap} (g : Glob K mg) (F : ∃ f fd, FnP K "check_holder" (top 32) f fd ∧ mg "check_holder" = some (.ref f)) (EF : ExF K mg) (c_is_between : CalP P w K mg base "is_between" 1 3 ["value", "low", "high"] F_is_between) : CalX P w K mg base "check_holder" 2 2 ["ladder", "holder"] F_X_check_holder := by
  obtain ⟨f, fd, F, hm⟩ := F
  obtain ⟨f_is_between, fd_is_between, ok_is_between, mg_is_between, kp_is_between, bd_is_between⟩ := c_is_between
  refine ⟨f, fd, ?_, hm, F.kp, F.bindsN fun _ _ _ _ _ _ us hl => match us, hl with | [_, _], _ => rfl⟩
  have sc := sc_X_check_holder
  refine fn_X (toFun F) sc rfl fun cdv A outer s H E hr => ?_
  have hu := units64 hr
  have hu5 := units65 hr
  have hu1 := units1 hr
  exact (s_one (s_if (c_not (c_val (d_call ok_is_between (hr.mono (by decide : 1 ≤ 1)) rfl mg_is_between kp_is_between bd_is_between (a_cons (d_var (pv 1)) (a_cons d_int (a_cons (d_bin op_subD (d_r (d_ix ix_D (d_r (d_var (pv 0))) (d_r d_int) (fun _ _ => rfl))) (d_r d_int)) a_nil)))))) (s_one (s_raise rfl tkOf (EF.oe "InvalidHolder" (by decide +kernel)) rfl)) s_nil))

theorem sc_X_check_amount : FnScope ["value"] ["value"] (defScope (top 34)) := ⟨rfl, rfl, rfl, by decide +kernel, rfl, by decide +kernel, by decide +kernel⟩
theorem cal_X_check_amount {P : Program} {w : World} {K : PySem.W.Frag} {mg : Str → Option Value} {base : Heap} (g : Glob K mg) (F : ∃ f fd, FnP K "check_amount" (top 34) f fd ∧ mg "check_amount" = some (.ref f)) (EF : ExF K mg) (c_is_amount : CalP P w K mg base "is_amount" 2 1 ["value"] F_is_amount) : CalX P w K mg base "check_amount" 3 1 ["value"] F_X_check_amount := by
  obtain ⟨f, fd, F, hm⟩ := F
  obtain ⟨f_is_amount, fd_is_amount, ok_is_amount, mg_is_amount, kp_is_amount, bd_is_amount⟩ := c_is_amount
  refine ⟨f, fd, ?_, hm, F.kp, F.bindsN fun _ _ _ _ _ _ us hl => match us, hl with | [_], _ => rfl⟩
  have sc := sc_X_check_amount
  refine fn_X (toFun F) sc rfl fun cdv A outer s H E hr => ?_
  have hu := units64 hr
  have hu5 := units65 hr
  have hu1 := units1 hr
  exact (s_one (s_if (c_not (c_val (d_call ok_is_amount (hr.mono (by decide : 2 ≤ 2)) rfl mg_is_amount kp_is_amount bd_is_amount (a_cons (d_var (pv 0)) a_nil)))) (s_one (s_raise rfl tkOf (EF.oe "InvalidAmount" (by decide +kernel)) rfl)) s_nil))

theorem sc_X_reached : FnScope ["ladder", "number", "rung"] ["ladder"] (defScope (top 35)) := ⟨rfl, rfl, rfl, by decide +kernel, rfl, by decide +kernel, by decide +kernel⟩
theorem cal_X_reached {P : Program} {w : World} {K : PySem.W.Frag} {mg : Str → Option Value} {base : Heap} (g : Glob K mg) (F : ∃ f fd, FnP K "reached" (top 35) f fd ∧ mg "reached" = some (.ref f)) (c_X_check_ladder : CalX P w K mg base "check_ladder" 5 1 ["value"] F_X_check_ladder) (c_is_endless : CalP P w K mg base "is_endless" 1 1 ["rung"] F_is_endless) : CalX P w K mg base "reached" 6 1 ["ladder"] F_X_reached := by
  obtain ⟨f, fd, F, hm⟩ := F
  obtain ⟨f_X_check_ladder, fd_X_check_ladder, ok_X_check_ladder, mg_X_check_ladder, kp_X_check_ladder, bd_X_check_ladder⟩ := c_X_check_ladder
  obtain ⟨f_is_endless, fd_is_endless, ok_is_endless, mg_is_endless, kp_is_endless, bd_is_endless⟩ := c_is_endless
  refine ⟨f, fd, ?_, hm, F.kp, F.bindsN fun _ _ _ _ _ _ us hl => match us, hl with | [_], _ => rfl⟩
  have sc := sc_X_reached
  refine fn_X (toFun F) sc rfl fun cdv A outer s H E hr => ?_
  have hu := units64 hr
  have hu5 := units65 hr
  have hu1 := units1 hr
  exact (s_cons (s_expr (d_callE ok_X_check_ladder (hr.mono (by decide : 5 ≤ 5)) rfl mg_X_check_ladder kp_X_check_ladder bd_X_check_ladder tkOf (a_cons (d_var (pv 0)) a_nil)))
    (s_one (s_ret (d_bin op_addD (d_r (d_ix ix_D (d_r (d_frz (l_comp (own := [("number", 1), ("rung", 2)]) rfl sc.nd (i_enum rfl g.enumerate_ (a_cons (d_ix ix_D (d_r (d_var (pv 0))) (d_r d_int) (fun _ _ => rfl)) a_nil)) (blkOk_by (own := [("number", 1), ("rung", 2)]) (N := ["ladder", "number", "rung"]) (sc := defScope (top 35)) (by decide +kernel)) (fun _ _ _ _ _ => (g_tup rfl (gs_cons (g_name (pg_name (i := 1) sc.nd rfl (Or.inl rfl))) (gs_cons (g_name (pg_name (i := 2) sc.nd rfl (Or.inl rfl))) gs_nil)))) (fun _ _ _ _ _ => (t_one (c_val (d_call ok_is_endless (hr.mono (by decide : 1 ≤ 5)) rfl mg_is_endless kp_is_endless bd_is_endless (a_cons (d_var (pv 2)) a_nil))))) (fun _ _ _ _ _ => (d_var (pv 1))) (by decide)))) (d_r d_int) (fun _ _ => rfl))) (d_r d_int)))))

theorem sc_X_needed_for : FnScope ["ladder", "number", "found", "rung", "pair"] ["ladder", "number"] (defScope (top 36)) := ⟨rfl, rfl, rfl, by decide +kernel, rfl, by decide +kernel, by decide +kernel⟩
theorem cal_X_needed_for {P : Program} {w : World} {K : PySem.W.Frag} {mg : Str → Option Value} {base : Heap} (g : Glob K mg) (F : ∃ f fd, FnP K "needed_for" (top 36) f fd ∧ mg "needed_for" = some (.ref f)) (EF : ExF K mg) (c_X_check_ladder : CalX P w K mg base "check_ladder" 5 1 ["value"] F_X_check_ladder) (c_is_between : CalP P w K mg base "is_between" 1 3 ["value", "low", "high"] F_is_between) (c_is_endless : CalP P w K mg base "is_endless" 1 1 ["rung"] F_is_endless) : CalX P w K mg base "needed_for" 6 2 ["ladder", "number"] F_X_needed_for := by
  obtain ⟨f, fd, F, hm⟩ := F
  obtain ⟨f_X_check_ladder, fd_X_check_ladder, ok_X_check_ladder, mg_X_check_ladder, kp_X_check_ladder, bd_X_check_ladder⟩ := c_X_check_ladder
  obtain ⟨f_is_between, fd_is_between, ok_is_between, mg_is_between, kp_is_between, bd_is_between⟩ := c_is_between
  obtain ⟨f_is_endless, fd_is_endless, ok_is_endless, mg_is_endless, kp_is_endless, bd_is_endless⟩ := c_is_endless
  refine ⟨f, fd, ?_, hm, F.kp, F.bindsN fun _ _ _ _ _ _ us hl => match us, hl with | [_, _], _ => rfl⟩
  have sc := sc_X_needed_for
  refine fn_X (toFun F) sc rfl fun cdv A outer s H E hr => ?_
  have hu := units64 hr
  have hu5 := units65 hr
  have hu1 := units1 hr
  exact (s_cons (s_expr (d_callE ok_X_check_ladder (hr.mono (by decide : 5 ≤ 5)) rfl mg_X_check_ladder kp_X_check_ladder bd_X_check_ladder tkOf (a_cons (d_var (pv 0)) a_nil)))
    (s_cons (s_if (c_not (c_val (d_call ok_is_between (hr.mono (by decide : 1 ≤ 5)) rfl mg_is_between kp_is_between bd_is_between (a_cons (d_var (pv 1)) (a_cons d_int (a_cons (d_bin op_subD (d_r (d_callB cb_len rfl g.len_ (by decide +kernel) (r_cons (d_r (d_ix ix_D (d_r (d_var (pv 0))) (d_r d_int) (fun _ _ => rfl))) r_nil))) (d_r d_int)) a_nil)))))) (s_one (s_raise rfl tkOf (EF.oe "InvalidNumber" (by decide +kernel)) rfl)) s_nil)
    (s_cons (s_asg (ps_set (i := 2) sc.nd rfl (Or.inl rfl) d_int))
    (s_cons (s_for (passes_of rfl) rfl (i_seq (d_slice (d_r (d_ix ix_D (d_r (d_var (pv 0))) (d_r d_int) (fun _ _ => rfl))) o_none (o_some (d_bin op_addD (d_r (d_var (pv 1))) (d_r d_int))))) (g_name (pg_name (i := 3) sc.nd rfl (Or.inl rfl))) (s_cons (s_if (c_val (d_call ok_is_endless (hr.mono (by decide : 1 ≤ 5)) rfl mg_is_endless kp_is_endless bd_is_endless (a_cons (d_var (pv 3)) a_nil))) (s_one (s_ret d_non)) s_nil)
    (s_one (s_asg (ps_set (i := 2) sc.nd rfl (Or.inl rfl) (d_bin op_addD (d_r (d_var (pv 2))) (d_r (d_callB (cb_sum rfl) rfl g.sum_ (by decide +kernel) (r_cons (d_r (d_frz (l_comp (own := [("pair", 4)]) rfl sc.nd (i_seq (d_ix ix_D (d_r (d_var (pv 3))) (d_r (d_un un_negD (d_r d_int))) (fun _ _ => rfl))) (blkOk_by (own := [("pair", 4)]) (N := ["ladder", "number", "found", "rung", "pair"]) (sc := defScope (top 36)) (by decide +kernel)) (fun _ _ _ _ _ => (g_name (pg_name (i := 4) sc.nd rfl (Or.inl rfl)))) (fun _ _ _ _ _ => t_yes) (fun _ _ _ _ _ => (d_ix ix_D (d_r (d_var (pv 4))) (d_r d_int) (fun _ _ => rfl))) (by decide)))) r_nil)))))))))
    (s_one (s_ret (d_var (pv 2))))))))

theorem sc_X_pay : FnScope ["ladder", "amount"] ["ladder", "amount"] (defScope (top 46)) := ⟨rfl, rfl, rfl, by decide +kernel, rfl, by decide +kernel, by decide +kernel⟩
theorem cal_X_pay {P : Program} {w : World} {K : PySem.W.Frag} {mg : Str → Option Value} {base : Heap} (g : Glob K mg) (F : ∃ f fd, FnP K "pay" (top 46) f fd ∧ mg "pay" = some (.ref f)) (c_X_check_ladder : CalX P w K mg base "check_ladder" 5 1 ["value"] F_X_check_ladder) (c_X_check_amount : CalX P w K mg base "check_amount" 3 1 ["value"] F_X_check_amount) (c_all_payments : CalP P w K mg base "all_payments" 9 2 ["ladder", "amount"] F_all_payments) : CalX P w K mg base "pay" 10 2 ["ladder", "amount"] F_X_pay := by
  obtain ⟨f, fd, F, hm⟩ := F
  obtain ⟨f_X_check_ladder, fd_X_check_ladder, ok_X_check_ladder, mg_X_check_ladder, kp_X_check_ladder, bd_X_check_ladder⟩ := c_X_check_ladder
  obtain ⟨f_X_check_amount, fd_X_check_amount, ok_X_check_amount, mg_X_check_amount, kp_X_check_amount, bd_X_check_amount⟩ := c_X_check_amount
  obtain ⟨f_all_payments, fd_all_payments, ok_all_payments, mg_all_payments, kp_all_payments, bd_all_payments⟩ := c_all_payments
  refine ⟨f, fd, ?_, hm, F.kp, F.bindsN fun _ _ _ _ _ _ us hl => match us, hl with | [_, _], _ => rfl⟩
  have sc := sc_X_pay
  refine fn_X (toFun F) sc rfl fun cdv A outer s H E hr => ?_
  have hu := units64 hr
  have hu5 := units65 hr
  have hu1 := units1 hr
  exact (s_cons (s_expr (d_callE ok_X_check_ladder (hr.mono (by decide : 5 ≤ 9)) rfl mg_X_check_ladder kp_X_check_ladder bd_X_check_ladder tkOf (a_cons (d_var (pv 0)) a_nil)))
    (s_cons (s_expr (d_callE ok_X_check_amount (hr.mono (by decide : 3 ≤ 9)) rfl mg_X_check_amount kp_X_check_amount bd_X_check_amount tkOf (a_cons (d_var (pv 1)) a_nil)))
    (s_one (s_ret (d_call ok_all_payments (hr.mono (by decide : 9 ≤ 9)) rfl mg_all_payments kp_all_payments bd_all_payments (a_cons (d_var (pv 0)) (a_cons (d_var (pv 1)) a_nil)))))))

theorem sc_X_pay_rungs : FnScope ["ladder", "amount", "found", "left", "number", "length", "rates", "part", "holder", "rate", "rung", "row"] ["ladder", "amount"] (defScope (top 47)) := ⟨rfl, rfl, rfl, by decide +kernel, rfl, by decide +kernel, by decide +kernel⟩
theorem cal_X_pay_rungs {P : Program} {w : World} {K : PySem.W.Frag} {mg : Str → Option Value} {base : Heap} (g : Glob K mg) (F : ∃ f fd, FnP K "pay_rungs" (top 47) f fd ∧ mg "pay_rungs" = some (.ref f)) (gZERO : HasZero K mg) (c_X_check_ladder : CalX P w K mg base "check_ladder" 5 1 ["value"] F_X_check_ladder) (c_X_check_amount : CalX P w K mg base "check_amount" 3 1 ["value"] F_X_check_amount) (c_pieces_of : CalP P w K mg base "pieces_of" 7 1 ["ladder"] F_pieces_of) (c_minus : CalP P w K mg base "minus" 4 2 ["one", "other"] F_minus) (c_lesser : CalP P w K mg base "lesser" 2 2 ["one", "other"] F_lesser) (c_plus : CalP P w K mg base "plus" 3 2 ["one", "other"] F_plus) (c_product : CalP P w K mg base "product" 3 2 ["one", "other"] F_product) : CalX P w K mg base "pay_rungs" 8 2 ["ladder", "amount"] F_X_pay_rungs := by
  obtain ⟨f, fd, F, hm⟩ := F
  obtain ⟨f_X_check_ladder, fd_X_check_ladder, ok_X_check_ladder, mg_X_check_ladder, kp_X_check_ladder, bd_X_check_ladder⟩ := c_X_check_ladder
  obtain ⟨f_X_check_amount, fd_X_check_amount, ok_X_check_amount, mg_X_check_amount, kp_X_check_amount, bd_X_check_amount⟩ := c_X_check_amount
  obtain ⟨f_pieces_of, fd_pieces_of, ok_pieces_of, mg_pieces_of, kp_pieces_of, bd_pieces_of⟩ := c_pieces_of
  obtain ⟨f_minus, fd_minus, ok_minus, mg_minus, kp_minus, bd_minus⟩ := c_minus
  obtain ⟨f_lesser, fd_lesser, ok_lesser, mg_lesser, kp_lesser, bd_lesser⟩ := c_lesser
  obtain ⟨f_plus, fd_plus, ok_plus, mg_plus, kp_plus, bd_plus⟩ := c_plus
  obtain ⟨f_product, fd_product, ok_product, mg_product, kp_product, bd_product⟩ := c_product
  refine ⟨f, fd, ?_, hm, F.kp, F.bindsN fun _ _ _ _ _ _ us hl => match us, hl with | [_, _], _ => rfl⟩
  have sc := sc_X_pay_rungs
  refine fn_X (toFun F) sc rfl fun cdv A outer s H E hr => ?_
  have hu := units64 hr
  have hu5 := units65 hr
  have hu1 := units1 hr
  exact (s_cons (s_expr (d_callE ok_X_check_ladder (hr.mono (by decide : 5 ≤ 7)) rfl mg_X_check_ladder kp_X_check_ladder bd_X_check_ladder tkOf (a_cons (d_var (pv 0)) a_nil)))
    (s_cons (s_expr (d_callE ok_X_check_amount (hr.mono (by decide : 3 ≤ 7)) rfl mg_X_check_amount kp_X_check_amount bd_X_check_amount tkOf (a_cons (d_var (pv 1)) a_nil)))
    (s_cons (s_ow2 (by decide) (ps_setLc (own := [("rung", 10)]) (i := 2) rfl sc.nd rfl rfl (sw_true rfl rfl rfl (by decide +kernel)) (i_seq (d_ix ix_D (d_r (d_var (pv 0))) (d_r d_int) (fun _ _ => rfl))) (blkOk_by (own := [("rung", 10)]) (N := ["ladder", "amount", "found", "left", "number", "length", "rates", "part", "holder", "rate", "rung", "row"]) (sc := defScope (top 47)) (by decide +kernel)) (fun _ _ _ _ _ => (g_name (pg_name (i := 10) sc.nd rfl (Or.inl rfl)))) (fun _ _ _ _ _ => t_yes) (fun _ _ _ _ _ => (l_bin op_mulL (d_r (d_frz (l_lst (a_cons (d_gtup (is := [0, 1]) rfl gZERO) a_nil)))) (d_r (d_ix ix_D (d_r (d_var (pv 0))) (d_r d_int) (fun _ _ => rfl)))))))
    (s_cons (s_asg (ps_set (i := 3) sc.nd rfl (Or.inl rfl) (d_var (pv 1))))
    (s_cons (s_for (passes_of rfl) rfl (i_seq (d_call ok_pieces_of (hr.mono (by decide : 7 ≤ 7)) rfl mg_pieces_of kp_pieces_of bd_pieces_of (a_cons (d_var (pv 0)) a_nil))) (g_tup rfl (gs_cons (g_name (pg_name (i := 4) sc.nd rfl (Or.inl rfl))) (gs_cons (g_name (pg_name (i := 5) sc.nd rfl (Or.inl rfl))) (gs_cons (g_name (pg_name (i := 6) sc.nd rfl (Or.inl rfl))) gs_nil)))) (s_cons (s_asg (ps_set (i := 7) sc.nd rfl (Or.inl rfl) (d_if (c_cmp op_isQ (d_r (d_var (pv 5))) (d_r d_non) (nomark _)) (d_var (pv 3)) (d_call ok_lesser (hr.mono (by decide : 2 ≤ 7)) rfl mg_lesser kp_lesser bd_lesser (a_cons (d_var (pv 3)) (a_cons (d_var (pv 5)) a_nil))))))
    (s_cons (s_asg (ps_set (i := 3) sc.nd rfl (Or.inl rfl) (d_call ok_minus (hr.mono (by decide : 4 ≤ 7)) rfl mg_minus kp_minus bd_minus (a_cons (d_var (pv 3)) (a_cons (d_var (pv 7)) a_nil)))))
    (s_one (s_for (passes_of rfl) rfl (i_enum rfl g.enumerate_ (a_cons (d_var (pv 6)) a_nil)) (g_tup rfl (gs_cons (g_name (pg_name (i := 8) sc.nd rfl (Or.inl rfl))) (gs_cons (g_name (pg_name (i := 9) sc.nd rfl (Or.inl rfl))) gs_nil))) (s_one (s_set3 (ps_asg (d_call ok_plus (hr.mono (by decide : 3 ≤ 7)) rfl mg_plus kp_plus bd_plus (a_cons (d_ix2 (pv 2) (d_var (pv 4)) (fun _ _ => rfl) (d_var (pv 8)) (fun _ _ => rfl)) (a_cons (d_call ok_product (hr.mono (by decide : 3 ≤ 7)) rfl mg_product kp_product bd_product (a_cons (d_var (pv 7)) (a_cons (d_var (pv 9)) a_nil))) a_nil))) (pg_sub (pe_ix ix_list (pv 2) (d_var (pv 4)) (fun _ _ => rfl)) (d_var (pv 8)) set_list)))))))))
    (s_one (s_frz2 2 (s_ret (d_callTy ct_tuple rfl g.tuple_ (by decide +kernel) (r_cons (d_r (d_frz (l_comp (own := [("row", 11)]) rfl sc.nd (i_seq (d_var (pv 2))) (blkOk_by (own := [("row", 11)]) (N := ["ladder", "amount", "found", "left", "number", "length", "rates", "part", "holder", "rate", "rung", "row"]) (sc := defScope (top 47)) (by decide +kernel)) (fun _ _ _ _ _ => (g_name (pg_name (i := 11) sc.nd rfl (Or.inl rfl)))) (fun _ _ _ _ _ => t_yes) (fun _ _ _ _ _ => (d_callTy ct_tuple rfl g.tuple_ (by decide +kernel) (r_cons (d_r (d_var (pv 11))) r_nil))) (by decide)))) r_nil))))))))))

theorem sc_X_pay_next : FnScope ["ladder", "start", "amount", "before", "after", "one", "other"] ["ladder", "start", "amount"] (defScope (top 48)) := ⟨rfl, rfl, rfl, by decide +kernel, rfl, by decide +kernel, by decide +kernel⟩
theorem cal_X_pay_next {P : Program} {w : World} {K : PySem.W.Frag} {mg : Str → Option Value} {base : Heap} (g : Glob K mg) (F : ∃ f fd, FnP K "pay_next" (top 48) f fd ∧ mg "pay_next" = some (.ref f)) (c_X_check_ladder : CalX P w K mg base "check_ladder" 5 1 ["value"] F_X_check_ladder) (c_X_check_amount : CalX P w K mg base "check_amount" 3 1 ["value"] F_X_check_amount) (c_all_payments : CalP P w K mg base "all_payments" 9 2 ["ladder", "amount"] F_all_payments) (c_plus : CalP P w K mg base "plus" 3 2 ["one", "other"] F_plus) (c_minus : CalP P w K mg base "minus" 4 2 ["one", "other"] F_minus) : CalX P w K mg base "pay_next" 10 3 ["ladder", "start", "amount"] F_X_pay_next := by
  obtain ⟨f, fd, F, hm⟩ := F
  obtain ⟨f_X_check_ladder, fd_X_check_ladder, ok_X_check_ladder, mg_X_check_ladder, kp_X_check_ladder, bd_X_check_ladder⟩ := c_X_check_ladder
  obtain ⟨f_X_check_amount, fd_X_check_amount, ok_X_check_amount, mg_X_check_amount, kp_X_check_amount, bd_X_check_amount⟩ := c_X_check_amount
  obtain ⟨f_all_payments, fd_all_payments, ok_all_payments, mg_all_payments, kp_all_payments, bd_all_payments⟩ := c_all_payments
  obtain ⟨f_plus, fd_plus, ok_plus, mg_plus, kp_plus, bd_plus⟩ := c_plus
  obtain ⟨f_minus, fd_minus, ok_minus, mg_minus, kp_minus, bd_minus⟩ := c_minus
  refine ⟨f, fd, ?_, hm, F.kp, F.bindsN fun _ _ _ _ _ _ us hl => match us, hl with | [_, _, _], _ => rfl⟩
  have sc := sc_X_pay_next
  refine fn_X (toFun F) sc rfl fun cdv A outer s H E hr => ?_
  have hu := units64 hr
  have hu5 := units65 hr
  have hu1 := units1 hr
  exact (s_cons (s_expr (d_callE ok_X_check_ladder (hr.mono (by decide : 5 ≤ 9)) rfl mg_X_check_ladder kp_X_check_ladder bd_X_check_ladder tkOf (a_cons (d_var (pv 0)) a_nil)))
    (s_cons (s_expr (d_callE ok_X_check_amount (hr.mono (by decide : 3 ≤ 9)) rfl mg_X_check_amount kp_X_check_amount bd_X_check_amount tkOf (a_cons (d_var (pv 1)) a_nil)))
    (s_cons (s_expr (d_callE ok_X_check_amount (hr.mono (by decide : 3 ≤ 9)) rfl mg_X_check_amount kp_X_check_amount bd_X_check_amount tkOf (a_cons (d_var (pv 2)) a_nil)))
    (s_cons (s_par2 (ps_par (i := 3) (j := 4) rfl sc.nd rfl rfl (by decide) rfl rfl (m_d (d_call ok_all_payments (hr.mono (by decide : 9 ≤ 9)) rfl mg_all_payments kp_all_payments bd_all_payments (a_cons (d_var (pv 0)) (a_cons (d_var (pv 1)) a_nil))) (m_d (d_call ok_all_payments (hr.mono (by decide : 9 ≤ 9)) rfl mg_all_payments kp_all_payments bd_all_payments (a_cons (d_var (pv 0)) (a_cons (d_call ok_plus (hr.mono (by decide : 3 ≤ 9)) rfl mg_plus kp_plus bd_plus (a_cons (d_var (pv 1)) (a_cons (d_var (pv 2)) a_nil))) a_nil))) m_nil)) rfl))
    (s_one (s_ret (d_callTy ct_tuple rfl g.tuple_ (by decide +kernel) (r_cons (d_r (d_frz (l_comp (own := [("one", 5), ("other", 6)]) rfl sc.nd (i_zip rfl g.zip_ (a_cons (d_var (pv 4)) (a_cons (d_var (pv 3)) a_nil))) (blkOk_by (own := [("one", 5), ("other", 6)]) (N := ["ladder", "start", "amount", "before", "after", "one", "other"]) (sc := defScope (top 48)) (by decide +kernel)) (fun _ _ _ _ _ => (g_tup rfl (gs_cons (g_name (pg_name (i := 5) sc.nd rfl (Or.inl rfl))) (gs_cons (g_name (pg_name (i := 6) sc.nd rfl (Or.inl rfl))) gs_nil)))) (fun _ _ _ _ _ => t_yes) (fun _ _ _ _ _ => (d_call ok_minus (hr.mono (by decide : 4 ≤ 9)) rfl mg_minus kp_minus bd_minus (a_cons (d_var (pv 5)) (a_cons (d_var (pv 6)) a_nil)))) (by decide)))) r_nil))))))))

theorem sc_X_least_amount : FnScope ["ladder", "holder", "goal", "rows", "place", "row", "is_last"] ["ladder", "holder", "goal"] (defScope (top 49)) := ⟨rfl, rfl, rfl, by decide +kernel, rfl, by decide +kernel, by decide +kernel⟩
theorem cal_X_least_amount {P : Program} {w : World} {K : PySem.W.Frag} {mg : Str → Option Value} {base : Heap} (g : Glob K mg) (F : ∃ f fd, FnP K "least_amount" (top 49) f fd ∧ mg "least_amount" = some (.ref f)) (gZERO : HasZero K mg)  (EF : ExF K mg) (c_X_check_ladder : CalX P w K mg base "check_ladder" 5 1 ["value"] F_X_check_ladder) (c_X_check_holder : CalX P w K mg base "check_holder" 2 2 ["ladder", "holder"] F_X_check_holder) (c_found_bends : CalP P w K mg base "found_bends" 8 2 ["ladder", "holder"] F_found_bends) (c_is_amount : CalP P w K mg base "is_amount" 2 1 ["value"] F_is_amount) (c_is_less : CalP P w K mg base "is_less" 1 2 ["one", "other"] F_is_less) (c_plus : CalP P w K mg base "plus" 3 2 ["one", "other"] F_plus) (c_quotient : CalP P w K mg base "quotient" 3 2 ["one", "other"] F_quotient) (c_minus : CalP P w K mg base "minus" 4 2 ["one", "other"] F_minus) : CalX P w K mg base "least_amount" 9 3 ["ladder", "holder", "goal"] F_X_least_amount := by
  obtain ⟨f, fd, F, hm⟩ := F
  obtain ⟨f_X_check_ladder, fd_X_check_ladder, ok_X_check_ladder, mg_X_check_ladder, kp_X_check_ladder, bd_X_check_ladder⟩ := c_X_check_ladder
  obtain ⟨f_X_check_holder, fd_X_check_holder, ok_X_check_holder, mg_X_check_holder, kp_X_check_holder, bd_X_check_holder⟩ := c_X_check_holder
  obtain ⟨f_found_bends, fd_found_bends, ok_found_bends, mg_found_bends, kp_found_bends, bd_found_bends⟩ := c_found_bends
  obtain ⟨f_is_amount, fd_is_amount, ok_is_amount, mg_is_amount, kp_is_amount, bd_is_amount⟩ := c_is_amount
  obtain ⟨f_is_less, fd_is_less, ok_is_less, mg_is_less, kp_is_less, bd_is_less⟩ := c_is_less
  obtain ⟨f_plus, fd_plus, ok_plus, mg_plus, kp_plus, bd_plus⟩ := c_plus
  obtain ⟨f_quotient, fd_quotient, ok_quotient, mg_quotient, kp_quotient, bd_quotient⟩ := c_quotient
  obtain ⟨f_minus, fd_minus, ok_minus, mg_minus, kp_minus, bd_minus⟩ := c_minus
  refine ⟨f, fd, ?_, hm, F.kp, F.bindsN fun _ _ _ _ _ _ us hl => match us, hl with | [_, _, _], _ => rfl⟩
  have sc := sc_X_least_amount
  refine fn_X (toFun F) sc rfl fun cdv A outer s H E hr => ?_
  have hu := units64 hr
  have hu5 := units65 hr
  have hu1 := units1 hr
  exact (s_cons (s_expr (d_callE ok_X_check_ladder (hr.mono (by decide : 5 ≤ 8)) rfl mg_X_check_ladder kp_X_check_ladder bd_X_check_ladder tkOf (a_cons (d_var (pv 0)) a_nil)))
    (s_cons (s_expr (d_callE ok_X_check_holder (hr.mono (by decide : 2 ≤ 8)) rfl mg_X_check_holder kp_X_check_holder bd_X_check_holder tkOf (a_cons (d_var (pv 0)) (a_cons (d_var (pv 1)) a_nil))))
    (s_cons (s_if (c_not (c_val (d_call ok_is_amount (hr.mono (by decide : 2 ≤ 8)) rfl mg_is_amount kp_is_amount bd_is_amount (a_cons (d_var (pv 2)) a_nil)))) (s_one (s_raise rfl tkOf (EF.oe "InvalidGoal" (by decide +kernel)) rfl)) s_nil)
    (s_cons (s_asg (ps_set (i := 3) sc.nd rfl (Or.inl rfl) (d_call ok_found_bends (hr.mono (by decide : 8 ≤ 8)) rfl mg_found_bends kp_found_bends bd_found_bends (a_cons (d_var (pv 0)) (a_cons (d_var (pv 1)) a_nil)))))
    (s_cons (s_for (passes_of rfl) rfl (i_enum rfl g.enumerate_ (a_cons (d_var (pv 3)) a_nil)) (g_tup rfl (gs_cons (g_name (pg_name (i := 4) sc.nd rfl (Or.inl rfl))) (gs_cons (g_name (pg_name (i := 5) sc.nd rfl (Or.inl rfl))) gs_nil))) (s_cons (s_if (c_not (c_val (d_call ok_is_less (hr.mono (by decide : 1 ≤ 8)) rfl mg_is_less kp_is_less bd_is_less (a_cons (d_ix ix_D (d_r (d_var (pv 5))) (d_r d_int) (fun _ _ => rfl)) (a_cons (d_var (pv 2)) a_nil))))) (s_one (s_ret (d_ix ix_D (d_r (d_var (pv 5))) (d_r d_int) (fun _ _ => rfl)))) s_nil)
    (s_cons (s_asg (ps_set (i := 6) sc.nd rfl (Or.inl rfl) (d_cmp (op_eqQ hu) (d_r (d_bin op_addD (d_r (d_var (pv 4))) (d_r d_int))) (d_r (d_callB cb_len rfl g.len_ (by decide +kernel) (r_cons (d_r (d_var (pv 3))) r_nil))) (nomark _))))
    (s_one (s_if (PW.pt (c_and (c_cmp (op_neQ hu) (d_r (d_ix ix_D (d_r (d_var (pv 5))) (d_r d_int) (fun _ _ => rfl))) (d_r (d_gtup (is := [0, 1]) rfl gZERO)) (nomark _)) (c_and1 (PW.pt (c_or (c_val (d_var (pv 6))) (c_or1 (c_not (c_val (d_call ok_is_less (hr.mono (by decide : 1 ≤ 8)) rfl mg_is_less kp_is_less bd_is_less (a_cons (d_ix ix_D (d_r (d_ix ix_D (d_r (d_var (pv 3))) (d_r (d_bin op_addD (d_r (d_var (pv 4))) (d_r d_int))) (fun _ _ => rfl))) (d_r d_int) (fun _ _ => rfl)) (a_cons (d_var (pv 2)) a_nil))))))))))) (s_one (s_ret (d_call ok_plus (hr.mono (by decide : 3 ≤ 8)) rfl mg_plus kp_plus bd_plus (a_cons (d_ix ix_D (d_r (d_var (pv 5))) (d_r d_int) (fun _ _ => rfl)) (a_cons (d_call ok_quotient (hr.mono (by decide : 3 ≤ 8)) rfl mg_quotient kp_quotient bd_quotient (a_cons (d_call ok_minus (hr.mono (by decide : 4 ≤ 8)) rfl mg_minus kp_minus bd_minus (a_cons (d_var (pv 2)) (a_cons (d_ix ix_D (d_r (d_var (pv 5))) (d_r d_int) (fun _ _ => rfl)) a_nil))) (a_cons (d_ix ix_D (d_r (d_var (pv 5))) (d_r d_int) (fun _ _ => rfl)) a_nil))) a_nil))))) s_nil)))))
    (s_one (s_ret d_non)))))))

theorem sc_X_bends : FnScope ["ladder", "holder"] ["ladder", "holder"] (defScope (top 51)) := ⟨rfl, rfl, rfl, by decide +kernel, rfl, by decide +kernel, by decide +kernel⟩
theorem cal_X_bends {P : Program} {w : World} {K : PySem.W.Frag} {mg : Str → Option Value} {base : Heap} (g : Glob K mg) (F : ∃ f fd, FnP K "bends" (top 51) f fd ∧ mg "bends" = some (.ref f)) (c_X_check_ladder : CalX P w K mg base "check_ladder" 5 1 ["value"] F_X_check_ladder) (c_X_check_holder : CalX P w K mg base "check_holder" 2 2 ["ladder", "holder"] F_X_check_holder) (c_found_bends : CalP P w K mg base "found_bends" 8 2 ["ladder", "holder"] F_found_bends) : CalX P w K mg base "bends" 9 2 ["ladder", "holder"] F_X_bends := by
  obtain ⟨f, fd, F, hm⟩ := F
  obtain ⟨f_X_check_ladder, fd_X_check_ladder, ok_X_check_ladder, mg_X_check_ladder, kp_X_check_ladder, bd_X_check_ladder⟩ := c_X_check_ladder
  obtain ⟨f_X_check_holder, fd_X_check_holder, ok_X_check_holder, mg_X_check_holder, kp_X_check_holder, bd_X_check_holder⟩ := c_X_check_holder
  obtain ⟨f_found_bends, fd_found_bends, ok_found_bends, mg_found_bends, kp_found_bends, bd_found_bends⟩ := c_found_bends
  refine ⟨f, fd, ?_, hm, F.kp, F.bindsN fun _ _ _ _ _ _ us hl => match us, hl with | [_, _], _ => rfl⟩
  have sc := sc_X_bends
  refine fn_X (toFun F) sc rfl fun cdv A outer s H E hr => ?_
  have hu := units64 hr
  have hu5 := units65 hr
  have hu1 := units1 hr
  exact (s_cons (s_expr (d_callE ok_X_check_ladder (hr.mono (by decide : 5 ≤ 8)) rfl mg_X_check_ladder kp_X_check_ladder bd_X_check_ladder tkOf (a_cons (d_var (pv 0)) a_nil)))
    (s_cons (s_expr (d_callE ok_X_check_holder (hr.mono (by decide : 2 ≤ 8)) rfl mg_X_check_holder kp_X_check_holder bd_X_check_holder tkOf (a_cons (d_var (pv 0)) (a_cons (d_var (pv 1)) a_nil))))
    (s_one (s_ret (d_callTy ct_tuple rfl g.tuple_ (by decide +kernel) (r_cons (d_r (d_call ok_found_bends (hr.mono (by decide : 8 ≤ 8)) rfl mg_found_bends kp_found_bends bd_found_bends (a_cons (d_var (pv 0)) (a_cons (d_var (pv 1)) a_nil)))) r_nil))))))

theorem sc_X_rate_after : FnScope ["ladder", "holder", "amount", "row"] ["ladder", "holder", "amount"] (defScope (top 52)) := ⟨rfl, rfl, rfl, by decide +kernel, rfl, by decide +kernel, by decide +kernel⟩
theorem cal_X_rate_after {P : Program} {w : World} {K : PySem.W.Frag} {mg : Str → Option Value} {base : Heap} (g : Glob K mg) (F : ∃ f fd, FnP K "rate_after" (top 52) f fd ∧ mg "rate_after" = some (.ref f)) (c_X_check_ladder : CalX P w K mg base "check_ladder" 5 1 ["value"] F_X_check_ladder) (c_X_check_holder : CalX P w K mg base "check_holder" 2 2 ["ladder", "holder"] F_X_check_holder) (c_X_check_amount : CalX P w K mg base "check_amount" 3 1 ["value"] F_X_check_amount) (c_found_bends : CalP P w K mg base "found_bends" 8 2 ["ladder", "holder"] F_found_bends) (c_is_less : CalP P w K mg base "is_less" 1 2 ["one", "other"] F_is_less) : CalX P w K mg base "rate_after" 9 3 ["ladder", "holder", "amount"] F_X_rate_after := by
  obtain ⟨f, fd, F, hm⟩ := F
  obtain ⟨f_X_check_ladder, fd_X_check_ladder, ok_X_check_ladder, mg_X_check_ladder, kp_X_check_ladder, bd_X_check_ladder⟩ := c_X_check_ladder
  obtain ⟨f_X_check_holder, fd_X_check_holder, ok_X_check_holder, mg_X_check_holder, kp_X_check_holder, bd_X_check_holder⟩ := c_X_check_holder
  obtain ⟨f_X_check_amount, fd_X_check_amount, ok_X_check_amount, mg_X_check_amount, kp_X_check_amount, bd_X_check_amount⟩ := c_X_check_amount
  obtain ⟨f_found_bends, fd_found_bends, ok_found_bends, mg_found_bends, kp_found_bends, bd_found_bends⟩ := c_found_bends
  obtain ⟨f_is_less, fd_is_less, ok_is_less, mg_is_less, kp_is_less, bd_is_less⟩ := c_is_less
  refine ⟨f, fd, ?_, hm, F.kp, F.bindsN fun _ _ _ _ _ _ us hl => match us, hl with | [_, _, _], _ => rfl⟩
  have sc := sc_X_rate_after
  refine fn_X (toFun F) sc rfl fun cdv A outer s H E hr => ?_
  have hu := units64 hr
  have hu5 := units65 hr
  have hu1 := units1 hr
  exact (s_cons (s_expr (d_callE ok_X_check_ladder (hr.mono (by decide : 5 ≤ 8)) rfl mg_X_check_ladder kp_X_check_ladder bd_X_check_ladder tkOf (a_cons (d_var (pv 0)) a_nil)))
    (s_cons (s_expr (d_callE ok_X_check_holder (hr.mono (by decide : 2 ≤ 8)) rfl mg_X_check_holder kp_X_check_holder bd_X_check_holder tkOf (a_cons (d_var (pv 0)) (a_cons (d_var (pv 1)) a_nil))))
    (s_cons (s_expr (d_callE ok_X_check_amount (hr.mono (by decide : 3 ≤ 8)) rfl mg_X_check_amount kp_X_check_amount bd_X_check_amount tkOf (a_cons (d_var (pv 2)) a_nil)))
    (s_one (s_ret (d_ix ix_D (d_r (d_ix ix_D (d_r (d_frz (l_comp (own := [("row", 3)]) rfl sc.nd (i_seq (d_call ok_found_bends (hr.mono (by decide : 8 ≤ 8)) rfl mg_found_bends kp_found_bends bd_found_bends (a_cons (d_var (pv 0)) (a_cons (d_var (pv 1)) a_nil)))) (blkOk_by (own := [("row", 3)]) (N := ["ladder", "holder", "amount", "row"]) (sc := defScope (top 52)) (by decide +kernel)) (fun _ _ _ _ _ => (g_name (pg_name (i := 3) sc.nd rfl (Or.inl rfl)))) (fun _ _ _ _ _ => (t_one (c_not (c_val (d_call ok_is_less (hr.mono (by decide : 1 ≤ 8)) rfl mg_is_less kp_is_less bd_is_less (a_cons (d_var (pv 2)) (a_cons (d_ix ix_D (d_r (d_var (pv 3))) (d_r d_int) (fun _ _ => rfl)) a_nil))))))) (fun _ _ _ _ _ => (d_var (pv 3))) (by decide)))) (d_r (d_un un_negD (d_r d_int))) (fun _ _ => rfl))) (d_r d_int) (fun _ _ => rfl)))))))

theorem sc_X_check_both : FnScope ["one", "other"] ["one", "other"] (defScope (top 54)) := ⟨rfl, rfl, rfl, by decide +kernel, rfl, by decide +kernel, by decide +kernel⟩
theorem cal_X_check_both {P : Program} {w : World} {K : PySem.W.Frag} {mg : Str → Option Value} {base : Heap} (g : Glob K mg) (F : ∃ f fd, FnP K "check_both" (top 54) f fd ∧ mg "check_both" = some (.ref f)) (c_X_check_ladder : CalX P w K mg base "check_ladder" 5 1 ["value"] F_X_check_ladder) : CalX P w K mg base "check_both" 6 2 ["one", "other"] F_X_check_both := by
  obtain ⟨f, fd, F, hm⟩ := F
  obtain ⟨f_X_check_ladder, fd_X_check_ladder, ok_X_check_ladder, mg_X_check_ladder, kp_X_check_ladder, bd_X_check_ladder⟩ := c_X_check_ladder
  refine ⟨f, fd, ?_, hm, F.kp, F.bindsN fun _ _ _ _ _ _ us hl => match us, hl with | [_, _], _ => rfl⟩
  have sc := sc_X_check_both
  refine fn_X (toFun F) sc rfl fun cdv A outer s H E hr => ?_
  have hu := units64 hr
  have hu5 := units65 hr
  have hu1 := units1 hr
  exact (s_cons (s_expr (d_callE ok_X_check_ladder (hr.mono (by decide : 5 ≤ 5)) rfl mg_X_check_ladder kp_X_check_ladder bd_X_check_ladder tkOf (a_cons (d_var (pv 0)) a_nil)))
    (s_one (s_expr (d_callE ok_X_check_ladder (hr.mono (by decide : 5 ≤ 5)) rfl mg_X_check_ladder kp_X_check_ladder bd_X_check_ladder tkOf (a_cons (d_var (pv 1)) a_nil)))))

theorem sc_X_check_like : FnScope ["one", "other"] ["one", "other"] (defScope (top 55)) := ⟨rfl, rfl, rfl, by decide +kernel, rfl, by decide +kernel, by decide +kernel⟩
theorem cal_X_check_like {P : Program} {w : World} {K : PySem.W.Frag} {mg : Str → Option Value} {base : Heap} (g : Glob K mg) (F : ∃ f fd, FnP K "check_like" (top 55) f fd ∧ mg "check_like" = some (.ref f)) (EF : ExF K mg)  : CalX P w K mg base "check_like" 1 2 ["one", "other"] F_X_check_like := by
  obtain ⟨f, fd, F, hm⟩ := F
  refine ⟨f, fd, ?_, hm, F.kp, F.bindsN fun _ _ _ _ _ _ us hl => match us, hl with | [_, _], _ => rfl⟩
  have sc := sc_X_check_like
  refine fn_X (toFun F) sc rfl fun cdv A outer s H E hr => ?_
  have hu := units64 hr
  have hu5 := units65 hr
  have hu1 := units1 hr
  exact (s_one (s_if (c_cmp (op_neQ hu) (d_r (d_ix ix_D (d_r (d_var (pv 0))) (d_r d_int) (fun _ _ => rfl))) (d_r (d_ix ix_D (d_r (d_var (pv 1))) (d_r d_int) (fun _ _ => rfl))) (nomark _)) (s_one (s_raise rfl tkOf (EF.oe "Unlike" (by decide +kernel)) rfl)) s_nil))

theorem sc_X_are_alike : FnScope ["one", "other"] ["one", "other"] (defScope (top 61)) := ⟨rfl, rfl, rfl, by decide +kernel, rfl, by decide +kernel, by decide +kernel⟩
theorem cal_X_are_alike {P : Program} {w : World} {K : PySem.W.Frag} {mg : Str → Option Value} {base : Heap} (g : Glob K mg) (F : ∃ f fd, FnP K "are_alike" (top 61) f fd ∧ mg "are_alike" = some (.ref f)) (c_X_check_both : CalX P w K mg base "check_both" 6 2 ["one", "other"] F_X_check_both) (c_X_check_like : CalX P w K mg base "check_like" 1 2 ["one", "other"] F_X_check_like) (c_first_parting : CalP P w K mg base "first_parting" 10 2 ["one", "other"] F_first_parting) : CalX P w K mg base "are_alike" 11 2 ["one", "other"] F_X_are_alike := by
  obtain ⟨f, fd, F, hm⟩ := F
  obtain ⟨f_X_check_both, fd_X_check_both, ok_X_check_both, mg_X_check_both, kp_X_check_both, bd_X_check_both⟩ := c_X_check_both
  obtain ⟨f_X_check_like, fd_X_check_like, ok_X_check_like, mg_X_check_like, kp_X_check_like, bd_X_check_like⟩ := c_X_check_like
  obtain ⟨f_first_parting, fd_first_parting, ok_first_parting, mg_first_parting, kp_first_parting, bd_first_parting⟩ := c_first_parting
  refine ⟨f, fd, ?_, hm, F.kp, F.bindsN fun _ _ _ _ _ _ us hl => match us, hl with | [_, _], _ => rfl⟩
  have sc := sc_X_are_alike
  refine fn_X (toFun F) sc rfl fun cdv A outer s H E hr => ?_
  have hu := units64 hr
  have hu5 := units65 hr
  have hu1 := units1 hr
  exact (s_cons (s_expr (d_callE ok_X_check_both (hr.mono (by decide : 6 ≤ 10)) rfl mg_X_check_both kp_X_check_both bd_X_check_both tkOf (a_cons (d_var (pv 0)) (a_cons (d_var (pv 1)) a_nil))))
    (s_cons (s_expr (d_callE ok_X_check_like (hr.mono (by decide : 1 ≤ 10)) rfl mg_X_check_like kp_X_check_like bd_X_check_like tkOf (a_cons (d_var (pv 0)) (a_cons (d_var (pv 1)) a_nil))))
    (s_one (s_ret (d_cmp op_isQ (d_r (d_call ok_first_parting (hr.mono (by decide : 10 ≤ 10)) rfl mg_first_parting kp_first_parting bd_first_parting (a_cons (d_var (pv 0)) (a_cons (d_var (pv 1)) a_nil)))) (d_r d_non) (nomark _))))))

theorem sc_X_parting_after : FnScope ["one", "other"] ["one", "other"] (defScope (top 62)) := ⟨rfl, rfl, rfl, by decide +kernel, rfl, by decide +kernel, by decide +kernel⟩
theorem cal_X_parting_after {P : Program} {w : World} {K : PySem.W.Frag} {mg : Str → Option Value} {base : Heap} (g : Glob K mg) (F : ∃ f fd, FnP K "parting_after" (top 62) f fd ∧ mg "parting_after" = some (.ref f)) (c_X_check_both : CalX P w K mg base "check_both" 6 2 ["one", "other"] F_X_check_both) (c_X_check_like : CalX P w K mg base "check_like" 1 2 ["one", "other"] F_X_check_like) (c_first_parting : CalP P w K mg base "first_parting" 10 2 ["one", "other"] F_first_parting) : CalX P w K mg base "parting_after" 11 2 ["one", "other"] F_X_parting_after := by
  obtain ⟨f, fd, F, hm⟩ := F
  obtain ⟨f_X_check_both, fd_X_check_both, ok_X_check_both, mg_X_check_both, kp_X_check_both, bd_X_check_both⟩ := c_X_check_both
  obtain ⟨f_X_check_like, fd_X_check_like, ok_X_check_like, mg_X_check_like, kp_X_check_like, bd_X_check_like⟩ := c_X_check_like
  obtain ⟨f_first_parting, fd_first_parting, ok_first_parting, mg_first_parting, kp_first_parting, bd_first_parting⟩ := c_first_parting
  refine ⟨f, fd, ?_, hm, F.kp, F.bindsN fun _ _ _ _ _ _ us hl => match us, hl with | [_, _], _ => rfl⟩
  have sc := sc_X_parting_after
  refine fn_X (toFun F) sc rfl fun cdv A outer s H E hr => ?_
  have hu := units64 hr
  have hu5 := units65 hr
  have hu1 := units1 hr
  exact (s_cons (s_expr (d_callE ok_X_check_both (hr.mono (by decide : 6 ≤ 10)) rfl mg_X_check_both kp_X_check_both bd_X_check_both tkOf (a_cons (d_var (pv 0)) (a_cons (d_var (pv 1)) a_nil))))
    (s_cons (s_expr (d_callE ok_X_check_like (hr.mono (by decide : 1 ≤ 10)) rfl mg_X_check_like kp_X_check_like bd_X_check_like tkOf (a_cons (d_var (pv 0)) (a_cons (d_var (pv 1)) a_nil))))
    (s_one (s_ret (d_call ok_first_parting (hr.mono (by decide : 10 ≤ 10)) rfl mg_first_parting kp_first_parting bd_first_parting (a_cons (d_var (pv 0)) (a_cons (d_var (pv 1)) a_nil)))))))

theorem sc_X_gains : FnScope ["one", "other", "holder"] ["one", "other", "holder"] (defScope (top 63)) := ⟨rfl, rfl, rfl, by decide +kernel, rfl, by decide +kernel, by decide +kernel⟩
theorem cal_X_gains {P : Program} {w : World} {K : PySem.W.Frag} {mg : Str → Option Value} {base : Heap} (g : Glob K mg) (F : ∃ f fd, FnP K "gains" (top 63) f fd ∧ mg "gains" = some (.ref f)) (c_X_check_both : CalX P w K mg base "check_both" 6 2 ["one", "other"] F_X_check_both) (c_X_check_holder : CalX P w K mg base "check_holder" 2 2 ["ladder", "holder"] F_X_check_holder) (c_X_check_like : CalX P w K mg base "check_like" 1 2 ["one", "other"] F_X_check_like) (c_found_signs : CalP P w K mg base "found_signs" 9 3 ["one", "other", "holder"] F_found_signs) : CalX P w K mg base "gains" 10 3 ["one", "other", "holder"] F_X_gains := by
  obtain ⟨f, fd, F, hm⟩ := F
  obtain ⟨f_X_check_both, fd_X_check_both, ok_X_check_both, mg_X_check_both, kp_X_check_both, bd_X_check_both⟩ := c_X_check_both
  obtain ⟨f_X_check_holder, fd_X_check_holder, ok_X_check_holder, mg_X_check_holder, kp_X_check_holder, bd_X_check_holder⟩ := c_X_check_holder
  obtain ⟨f_X_check_like, fd_X_check_like, ok_X_check_like, mg_X_check_like, kp_X_check_like, bd_X_check_like⟩ := c_X_check_like
  obtain ⟨f_found_signs, fd_found_signs, ok_found_signs, mg_found_signs, kp_found_signs, bd_found_signs⟩ := c_found_signs
  refine ⟨f, fd, ?_, hm, F.kp, F.bindsN fun _ _ _ _ _ _ us hl => match us, hl with | [_, _, _], _ => rfl⟩
  have sc := sc_X_gains
  refine fn_X (toFun F) sc rfl fun cdv A outer s H E hr => ?_
  have hu := units64 hr
  have hu5 := units65 hr
  have hu1 := units1 hr
  exact (s_cons (s_expr (d_callE ok_X_check_both (hr.mono (by decide : 6 ≤ 9)) rfl mg_X_check_both kp_X_check_both bd_X_check_both tkOf (a_cons (d_var (pv 0)) (a_cons (d_var (pv 1)) a_nil))))
    (s_cons (s_expr (d_callE ok_X_check_holder (hr.mono (by decide : 2 ≤ 9)) rfl mg_X_check_holder kp_X_check_holder bd_X_check_holder tkOf (a_cons (d_var (pv 0)) (a_cons (d_var (pv 2)) a_nil))))
    (s_cons (s_expr (d_callE ok_X_check_like (hr.mono (by decide : 1 ≤ 9)) rfl mg_X_check_like kp_X_check_like bd_X_check_like tkOf (a_cons (d_var (pv 0)) (a_cons (d_var (pv 1)) a_nil))))
    (s_one (s_ret (d_callTy ct_tuple rfl g.tuple_ (by decide +kernel) (r_cons (d_r (d_call ok_found_signs (hr.mono (by decide : 9 ≤ 9)) rfl mg_found_signs kp_found_signs bd_found_signs (a_cons (d_var (pv 0)) (a_cons (d_var (pv 1)) (a_cons (d_var (pv 2)) a_nil))))) r_nil)))))))

theorem sc_X_extreme : FnScope ["ladder", "holder", "start", "is_better", "rows", "amounts", "best", "place", "amount", "part", "row"] ["ladder", "holder", "start", "is_better"] (defScope (top 65)) := ⟨rfl, rfl, rfl, by decide +kernel, rfl, by decide +kernel, by decide +kernel⟩
theorem cal_X_extreme {P : Program} {w : World} {K : PySem.W.Frag} {mg : Str → Option Value} {base : Heap} (g : Glob K mg) (F : ∃ f fd, FnP K "extreme" (top 65) f fd ∧ mg "extreme" = some (.ref f)) (EF : ExF K mg) (c_X_check_ladder : CalX P w K mg base "check_ladder" 5 1 ["value"] F_X_check_ladder) (c_X_check_holder : CalX P w K mg base "check_holder" 2 2 ["ladder", "holder"] F_X_check_holder) (c_X_check_amount : CalX P w K mg base "check_amount" 3 1 ["value"] F_X_check_amount) (c_found_bends : CalP P w K mg base "found_bends" 8 2 ["ladder", "holder"] F_found_bends) (c_in_order : CalP P w K mg base "in_order" 2 1 ["amounts"] F_in_order) (c_quotient : CalP P w K mg base "quotient" 3 2 ["one", "other"] F_quotient) (c_payment_at : CalP P w K mg base "payment_at" 5 2 ["rows", "amount"] F_payment_at) (c_is_less : CalP P w K mg base "is_less" 1 2 ["one", "other"] F_is_less) : CalFX P w K mg base "extreme" 9 3 ["ladder", "holder", "start", "is_better"] 6 2 F_X_extreme := by
  obtain ⟨f, fd, F, hm⟩ := F
  obtain ⟨f_X_check_ladder, fd_X_check_ladder, ok_X_check_ladder, mg_X_check_ladder, kp_X_check_ladder, bd_X_check_ladder⟩ := c_X_check_ladder
  obtain ⟨f_X_check_holder, fd_X_check_holder, ok_X_check_holder, mg_X_check_holder, kp_X_check_holder, bd_X_check_holder⟩ := c_X_check_holder
  obtain ⟨f_X_check_amount, fd_X_check_amount, ok_X_check_amount, mg_X_check_amount, kp_X_check_amount, bd_X_check_amount⟩ := c_X_check_amount
  obtain ⟨f_found_bends, fd_found_bends, ok_found_bends, mg_found_bends, kp_found_bends, bd_found_bends⟩ := c_found_bends
  obtain ⟨f_in_order, fd_in_order, ok_in_order, mg_in_order, kp_in_order, bd_in_order⟩ := c_in_order
  obtain ⟨f_quotient, fd_quotient, ok_quotient, mg_quotient, kp_quotient, bd_quotient⟩ := c_quotient
  obtain ⟨f_payment_at, fd_payment_at, ok_payment_at, mg_payment_at, kp_payment_at, bd_payment_at⟩ := c_payment_at
  obtain ⟨f_is_less, fd_is_less, ok_is_less, mg_is_less, kp_is_less, bd_is_less⟩ := c_is_less
  intro fx fg hg
  refine ⟨f, fd, ?_, hm, F.kp, F.bindsN fun _ _ _ _ _ _ us hl => match us, hl with | [_, _, _, _], _ => rfl⟩
  have sc := sc_X_extreme
  refine fn_FX (toFun F) sc rfl fun cdv A outer s H E hr => ?_
  have hu := units64 hr
  have hu5 := units65 hr
  have hu1 := units1 hr
  exact (s_cons (s_expr (d_callE ok_X_check_ladder (hr.mono (by decide : 5 ≤ 8)) rfl mg_X_check_ladder kp_X_check_ladder bd_X_check_ladder tkOf (a_cons (d_var (pv 0)) a_nil)))
    (s_cons (s_expr (d_callE ok_X_check_holder (hr.mono (by decide : 2 ≤ 8)) rfl mg_X_check_holder kp_X_check_holder bd_X_check_holder tkOf (a_cons (d_var (pv 0)) (a_cons (d_var (pv 1)) a_nil))))
    (s_cons (s_expr (d_callE ok_X_check_amount (hr.mono (by decide : 3 ≤ 8)) rfl mg_X_check_amount kp_X_check_amount bd_X_check_amount tkOf (a_cons (d_var (pv 2)) a_nil)))
    (s_cons (s_if (c_cmp (op_eqQ hu) (d_r (d_ix ix_D (d_r (d_var (pv 2))) (d_r d_int) (fun _ _ => rfl))) (d_r d_int) (nomark _)) (s_one (s_raise rfl tkOf (EF.oe "InvalidAmount" (by decide +kernel)) rfl)) s_nil)
    (s_cons (s_asg (ps_set (i := 4) sc.nd rfl (Or.inl rfl) (d_call ok_found_bends (hr.mono (by decide : 8 ≤ 8)) rfl mg_found_bends kp_found_bends bd_found_bends (a_cons (d_var (pv 0)) (a_cons (d_var (pv 1)) a_nil)))))
    (s_cons (s_asg (ps_set (i := 5) sc.nd rfl (Or.inl rfl) (d_call ok_in_order (hr.mono (by decide : 2 ≤ 8)) rfl mg_in_order kp_in_order bd_in_order (a_cons (d_bin op_addD (d_r (d_frz (l_lst (a_cons (d_var (pv 2)) a_nil)))) (d_r (d_frz (l_comp (own := [("row", 10)]) rfl sc.nd (i_seq (d_var (pv 4))) (blkOk_by (own := [("row", 10)]) (N := ["ladder", "holder", "start", "is_better", "rows", "amounts", "best", "place", "amount", "part", "row"]) (sc := defScope (top 65)) (by decide +kernel)) (fun _ _ _ _ _ => (g_name (pg_name (i := 10) sc.nd rfl (Or.inl rfl)))) (fun _ _ _ _ _ => (t_one (c_val (d_call ok_is_less (hr.mono (by decide : 1 ≤ 8)) rfl mg_is_less kp_is_less bd_is_less (a_cons (d_var (pv 2)) (a_cons (d_ix ix_D (d_r (d_var (pv 10))) (d_r d_int) (fun _ _ => rfl)) a_nil)))))) (fun _ _ _ _ _ => (d_ix ix_D (d_r (d_var (pv 10))) (d_r d_int) (fun _ _ => rfl))) (by decide))))) a_nil))))
    (s_cons (s_parN (is := [6, 7]) (ps_asg (pe_tup (m_d d_non (m_d d_non m_nil))) (pg_tup rfl (pgs_cons (pg_name (i := 6) sc.nd rfl (Or.inl rfl)) (pgs_cons (pg_name (i := 7) sc.nd rfl (Or.inl rfl)) pgs_nil)))) rfl (by decide))
    (s_cons (s_for (passes_of rfl) rfl (i_seq (d_var (pv 5))) (g_name (pg_name (i := 8) sc.nd rfl (Or.inl rfl))) (s_cons (s_asg (ps_set (i := 9) sc.nd rfl (Or.inl rfl) (d_call ok_quotient (hr.mono (by decide : 3 ≤ 8)) rfl mg_quotient kp_quotient bd_quotient (a_cons (d_call ok_payment_at (hr.mono (by decide : 5 ≤ 8)) rfl mg_payment_at kp_payment_at bd_payment_at (a_cons (d_var (pv 4)) (a_cons (d_var (pv 8)) a_nil))) (a_cons (d_var (pv 8)) a_nil)))))
    (s_one (s_if (PW.pt (c_or (c_cmp op_isQ (d_r (d_var (pv 6))) (d_r d_non) (nomark _)) (c_or1 (c_val (d_callF (i := 3) hg (hr.mono (by decide : 6 ≤ 8)) rfl (Or.inl rfl) (a_cons (d_var (pv 9)) (a_cons (d_var (pv 6)) a_nil))))))) (s_one (s_par2 (ps_par (i := 6) (j := 7) rfl sc.nd rfl rfl (by decide) rfl rfl (m_d (d_var (pv 9)) (m_d (d_var (pv 8)) m_nil)) rfl))) s_nil))))
    (s_cons (s_if (c_val (d_callF (i := 3) hg (hr.mono (by decide : 6 ≤ 8)) rfl (Or.inl rfl) (a_cons (d_ix ix_D (d_r (d_ix ix_D (d_r (d_var (pv 4))) (d_r (d_un un_negD (d_r d_int))) (fun _ _ => rfl))) (d_r d_int) (fun _ _ => rfl)) (a_cons (d_var (pv 6)) a_nil)))) (s_one (s_par2 (ps_par (i := 6) (j := 7) rfl sc.nd rfl rfl (by decide) rfl rfl (m_d (d_ix ix_D (d_r (d_ix ix_D (d_r (d_var (pv 4))) (d_r (d_un un_negD (d_r d_int))) (fun _ _ => rfl))) (d_r d_int) (fun _ _ => rfl)) (m_d d_non m_nil)) rfl))) s_nil)
    (s_one (s_ret (d_tup (a_cons (d_var (pv 6)) (a_cons (d_var (pv 7)) a_nil))))))))))))))

theorem sc_X_greatest_part : FnScope ["ladder", "holder", "start"] ["ladder", "holder", "start"] (defScope (top 66)) := ⟨rfl, rfl, rfl, by decide +kernel, rfl, by decide +kernel, by decide +kernel⟩
theorem cal_X_greatest_part {P : Program} {w : World} {K : PySem.W.Frag} {mg : Str → Option Value} {base : Heap} (g : Glob K mg) (F : ∃ fd, FnP K "greatest_part" (top 66) (He.fAd K ("greatest_part", none)) fd ∧ mg "greatest_part" = some (.ref (He.fAd K ("greatest_part", none)))) (TB : LamX.TabB base mg (He.cT K ("greatest_part", none)).1 (He.cT K ("greatest_part", none)).2) (tA : TabAt K "greatest_part" (lamQ "greatest_part")) (c_is_less : CalP P w K mg base "is_less" 1 2 ["one", "other"] F_is_less) (c_X_extreme : CalFX P w K mg base "extreme" 9 3 ["ladder", "holder", "start", "is_better"] 6 2 F_X_extreme) (c_is_less : CalP P w K mg base "is_less" 1 2 ["one", "other"] F_is_less) : CalX P w K mg base "greatest_part" 10 3 ["ladder", "holder", "start"] F_X_greatest_part := by
  obtain ⟨fd, F, hm⟩ := F
  have hl := lam_greatest_part (P := P) (w := w) (base := base) g ⟨fd, F⟩ c_is_less
  obtain ⟨f_X_extreme, fd_X_extreme, ok_X_extreme, mg_X_extreme, kp_X_extreme, bd_X_extreme⟩ := c_X_extreme "greatest_part" F_lam_greatest_part hl
  obtain ⟨f_is_less, fd_is_less, ok_is_less, mg_is_less, kp_is_less, bd_is_less⟩ := c_is_less
  refine ⟨_, fd, ?_, hm, F.kp, F.bindsN fun _ _ _ _ _ _ us hl => match us, hl with | [_, _, _], _ => rfl⟩
  have sc := sc_X_greatest_part
  have hL := lamOf_eq (toFun F)
  refine fn_Xc (toFun F) sc rfl fun A outer s H E hr => ?_
  have hu := units64 hr
  have hu5 := units65 hr
  have hu1 := units1 hr
  exact (s_one (s_ret (d_callFX ok_X_extreme (hr.mono (by decide : 9 ≤ 9)) rfl mg_X_extreme kp_X_extreme bd_X_extreme tkOf (af_cons (d_var (pv 0)) (af_cons (d_var (pv 1)) (af_cons (d_var (pv 2)) (af_lam (e_lam hL TB rfl tA.hm tA.hu rfl (by decide +kernel) rfl))))))))

theorem sc_X_least_part : FnScope ["ladder", "holder", "start"] ["ladder", "holder", "start"] (defScope (top 67)) := ⟨rfl, rfl, rfl, by decide +kernel, rfl, by decide +kernel, by decide +kernel⟩
theorem cal_X_least_part {P : Program} {w : World} {K : PySem.W.Frag} {mg : Str → Option Value} {base : Heap} (g : Glob K mg) (F : ∃ fd, FnP K "least_part" (top 67) (He.fAd K ("least_part", none)) fd ∧ mg "least_part" = some (.ref (He.fAd K ("least_part", none)))) (TB : LamX.TabB base mg (He.cT K ("least_part", none)).1 (He.cT K ("least_part", none)).2) (tA : TabAt K "least_part" (lamQ "least_part")) (c_is_less : CalP P w K mg base "is_less" 1 2 ["one", "other"] F_is_less) (c_X_extreme : CalFX P w K mg base "extreme" 9 3 ["ladder", "holder", "start", "is_better"] 6 2 F_X_extreme) (c_is_less : CalP P w K mg base "is_less" 1 2 ["one", "other"] F_is_less) : CalX P w K mg base "least_part" 10 3 ["ladder", "holder", "start"] F_X_least_part := by
  obtain ⟨fd, F, hm⟩ := F
  have hl := lam_least_part (P := P) (w := w) (base := base) g ⟨fd, F⟩ c_is_less
  obtain ⟨f_X_extreme, fd_X_extreme, ok_X_extreme, mg_X_extreme, kp_X_extreme, bd_X_extreme⟩ := c_X_extreme "least_part" F_lam_least_part hl
  obtain ⟨f_is_less, fd_is_less, ok_is_less, mg_is_less, kp_is_less, bd_is_less⟩ := c_is_less
  refine ⟨_, fd, ?_, hm, F.kp, F.bindsN fun _ _ _ _ _ _ us hl => match us, hl with | [_, _, _], _ => rfl⟩
  have sc := sc_X_least_part
  have hL := lamOf_eq (toFun F)
  refine fn_Xc (toFun F) sc rfl fun A outer s H E hr => ?_
  have hu := units64 hr
  have hu5 := units65 hr
  have hu1 := units1 hr
  exact (s_one (s_ret (d_callFX ok_X_extreme (hr.mono (by decide : 9 ≤ 9)) rfl mg_X_extreme kp_X_extreme bd_X_extreme tkOf (af_cons (d_var (pv 0)) (af_cons (d_var (pv 1)) (af_cons (d_var (pv 2)) (af_lam (e_lam hL TB rfl tA.hm tA.hu rfl (by decide +kernel) rfl))))))))

theorem sc_X_check_simple : FnScope ["ladder", "rung"] ["ladder"] (defScope (top 69)) := ⟨rfl, rfl, rfl, by decide +kernel, rfl, by decide +kernel, by decide +kernel⟩
theorem cal_X_check_simple {P : Program} {w : World} {K : PySem.W.Frag} {mg : Str → Option Value} {base : Heap} (g : Glob K mg) (F : ∃ f fd, FnP K "check_simple" (top 69) f fd ∧ mg "check_simple" = some (.ref f)) (EF : ExF K mg) (c_X_check_ladder : CalX P w K mg base "check_ladder" 5 1 ["value"] F_X_check_ladder) : CalX P w K mg base "check_simple" 6 1 ["ladder"] F_X_check_simple := by
  obtain ⟨f, fd, F, hm⟩ := F
  obtain ⟨f_X_check_ladder, fd_X_check_ladder, ok_X_check_ladder, mg_X_check_ladder, kp_X_check_ladder, bd_X_check_ladder⟩ := c_X_check_ladder
  refine ⟨f, fd, ?_, hm, F.kp, F.bindsN fun _ _ _ _ _ _ us hl => match us, hl with | [_], _ => rfl⟩
  have sc := sc_X_check_simple
  refine fn_X (toFun F) sc rfl fun cdv A outer s H E hr => ?_
  have hu := units64 hr
  have hu5 := units65 hr
  have hu1 := units1 hr
  exact (s_cons (s_expr (d_callE ok_X_check_ladder (hr.mono (by decide : 5 ≤ 5)) rfl mg_X_check_ladder kp_X_check_ladder bd_X_check_ladder tkOf (a_cons (d_var (pv 0)) a_nil)))
    (s_one (s_if (c_val (d_callB (cb_any rfl) rfl g.any_ (by decide +kernel) (r_cons (d_r (d_frz (l_comp (own := [("rung", 1)]) rfl sc.nd (i_seq (d_slice (d_r (d_ix ix_D (d_r (d_var (pv 0))) (d_r d_int) (fun _ _ => rfl))) o_none (o_some (d_un un_negD (d_r d_int))))) (blkOk_by (own := [("rung", 1)]) (N := ["ladder", "rung"]) (sc := defScope (top 69)) (by decide +kernel)) (fun _ _ _ _ _ => (g_name (pg_name (i := 1) sc.nd rfl (Or.inl rfl)))) (fun _ _ _ _ _ => t_yes) (fun _ _ _ _ _ => (d_cmp (op_neQ hu) (d_r (d_ix ix_D (d_r (d_var (pv 1))) (d_r d_int) (fun _ _ => rfl))) (d_r d_str) (nomark _))) (by decide)))) r_nil))) (s_one (s_raise rfl tkOf (EF.oe "NotSimple" (by decide +kernel)) rfl)) s_nil)))

theorem sc_X_check_options : FnScope ["ladder", "options", "some", "rung", "holder", "one", "weight"] ["ladder", "options"] (defScope (top 70)) := ⟨rfl, rfl, rfl, by decide +kernel, rfl, by decide +kernel, by decide +kernel⟩
theorem cal_X_check_options {P : Program} {w : World} {K : PySem.W.Frag} {mg : Str → Option Value} {base : Heap} (g : Glob K mg) (F : ∃ f fd, FnP K "check_options" (top 70) f fd ∧ mg "check_options" = some (.ref f)) (EF : ExF K mg) (c_are_pairs : CalP P w K mg base "are_pairs" 2 4 ["holders", "value", "most", "least"] F_are_pairs) : CalX P w K mg base "check_options" 3 2 ["ladder", "options"] F_X_check_options := by
  obtain ⟨f, fd, F, hm⟩ := F
  obtain ⟨f_are_pairs, fd_are_pairs, ok_are_pairs, mg_are_pairs, kp_are_pairs, bd_are_pairs⟩ := c_are_pairs
  refine ⟨f, fd, ?_, hm, F.kp, F.bindsN fun _ _ _ _ _ _ us hl => match us, hl with | [_, _], _ => rfl⟩
  have sc := sc_X_check_options
  refine fn_X (toFun F) sc rfl fun cdv A outer s H E hr => ?_
  have hu := units64 hr
  have hu5 := units65 hr
  have hu1 := units1 hr
  exact (s_cons (s_if (c_not (c_val (d_call ok_are_pairs (hr.mono (by decide : 2 ≤ 2)) rfl mg_are_pairs kp_are_pairs bd_are_pairs (a_cons (d_ix ix_D (d_r (d_var (pv 0))) (d_r d_int) (fun _ _ => rfl)) (a_cons (d_var (pv 1)) (a_cons d_int (a_cons d_int a_nil))))))) (s_one (s_raise rfl tkOf (EF.oe "InvalidOptions" (by decide +kernel)) rfl)) s_nil)
    (s_cons (s_asg (ps_set (i := 2) sc.nd rfl (Or.inr rfl) (d_frz (l_comp2 (own := [("rung", 3), ("holder", 4), ("one", 5)]) (vs1 := [4, 5]) rfl sc.nd (i_seq (d_slice (d_r (d_ix ix_D (d_r (d_var (pv 0))) (d_r d_int) (fun _ _ => rfl))) o_none (o_some (d_un un_negD (d_r d_int))))) (blkOk_by (own := [("rung", 3), ("holder", 4), ("one", 5)]) (N := ["ladder", "options", "some", "rung", "holder", "one", "weight"]) (sc := defScope (top 70)) (by decide +kernel)) (by decide) (fun _ _ _ _ _ => (g_name (pg_name (i := 3) sc.nd rfl (Or.inl rfl)))) (fun _ _ _ _ _ => (i_seq (d_ix ix_D (d_r (d_var (pv 3))) (d_r d_int) (fun _ _ => rfl)))) (fun _ _ _ _ _ => (g_tup rfl (gs_cons (g_name (pg_name (i := 4) sc.nd rfl (Or.inl rfl))) (gs_cons (g_name (pg_name (i := 5) sc.nd rfl (Or.inl rfl))) gs_nil)))) (fun _ _ _ _ _ => (d_var (pv 4))) (by decide) (by decide)))))
    (s_one (s_if (c_val (d_callB (cb_any rfl) rfl g.any_ (by decide +kernel) (r_cons (d_r (d_frz (l_comp (own := [("holder", 4), ("weight", 6)]) rfl sc.nd (i_seq (d_var (pv 1))) (blkOk_by (own := [("holder", 4), ("weight", 6)]) (N := ["ladder", "options", "some", "rung", "holder", "one", "weight"]) (sc := defScope (top 70)) (by decide +kernel)) (fun _ _ _ _ _ => (g_tup rfl (gs_cons (g_name (pg_name (i := 4) sc.nd rfl (Or.inl rfl))) (gs_cons (g_name (pg_name (i := 6) sc.nd rfl (Or.inl rfl))) gs_nil)))) (fun _ _ _ _ _ => t_yes) (fun _ _ _ _ _ => (d_cmp (op_notInQ hu5) (d_r (d_var (pv 4))) (d_r (d_var (pv 2))) (by rfl))) (by decide)))) r_nil))) (s_one (s_raise rfl tkOf (EF.oe "InvalidOptions" (by decide +kernel)) rfl)) s_nil))))

theorem sc_X_check_choice : FnScope ["options", "choice", "some", "holder", "weight", "k"] ["options", "choice"] (defScope (top 71)) := ⟨rfl, rfl, rfl, by decide +kernel, rfl, by decide +kernel, by decide +kernel⟩
theorem cal_X_check_choice {P : Program} {w : World} {K : PySem.W.Frag} {mg : Str → Option Value} {base : Heap} (g : Glob K mg) (F : ∃ f fd, FnP K "check_choice" (top 71) f fd ∧ mg "check_choice" = some (.ref f)) (EF : ExF K mg) (c_is_between : CalP P w K mg base "is_between" 1 3 ["value", "low", "high"] F_is_between) : CalX P w K mg base "check_choice" 2 2 ["options", "choice"] F_X_check_choice := by
  obtain ⟨f, fd, F, hm⟩ := F
  obtain ⟨f_is_between, fd_is_between, ok_is_between, mg_is_between, kp_is_between, bd_is_between⟩ := c_is_between
  refine ⟨f, fd, ?_, hm, F.kp, F.bindsN fun _ _ _ _ _ _ us hl => match us, hl with | [_, _], _ => rfl⟩
  have sc := sc_X_check_choice
  refine fn_X (toFun F) sc rfl fun cdv A outer s H E hr => ?_
  have hu := units64 hr
  have hu5 := units65 hr
  have hu1 := units1 hr
  exact (s_cons (s_asg (ps_set (i := 2) sc.nd rfl (Or.inr rfl) (d_frz (l_comp (own := [("holder", 3), ("weight", 4)]) rfl sc.nd (i_seq (d_var (pv 0))) (blkOk_by (own := [("holder", 3), ("weight", 4)]) (N := ["options", "choice", "some", "holder", "weight", "k"]) (sc := defScope (top 71)) (by decide +kernel)) (fun _ _ _ _ _ => (g_tup rfl (gs_cons (g_name (pg_name (i := 3) sc.nd rfl (Or.inl rfl))) (gs_cons (g_name (pg_name (i := 4) sc.nd rfl (Or.inl rfl))) gs_nil)))) (fun _ _ _ _ _ => t_yes) (fun _ _ _ _ _ => (d_var (pv 3))) (by decide)))))
    (s_cons (s_if (PW.pt (c_or (c_not (c_val (d_isi rfl g.isinstance rfl g.tuple_ (by decide +kernel) (d_r (d_var (pv 1)))))) (c_or1 (c_not (c_val (d_callB (cb_all rfl) rfl g.all_ (by decide +kernel) (r_cons (d_r (d_frz (l_comp (own := [("holder", 3)]) rfl sc.nd (i_seq (d_var (pv 1))) (blkOk_by (own := [("holder", 3)]) (N := ["options", "choice", "some", "holder", "weight", "k"]) (sc := defScope (top 71)) (by decide +kernel)) (fun _ _ _ _ _ => (g_name (pg_name (i := 3) sc.nd rfl (Or.inl rfl)))) (fun _ _ _ _ _ => t_yes) (fun _ _ _ _ _ => (d_and (d_call ok_is_between (hr.mono (by decide : 1 ≤ 1)) rfl mg_is_between kp_is_between bd_is_between (a_cons (d_var (pv 3)) (a_cons d_int (a_cons d_int a_nil)))) (d_one (d_cmp (op_inQ hu5) (d_r (d_var (pv 3))) (d_r (d_var (pv 2))) (by rfl))))) (by decide)))) r_nil))))))) (s_one (s_raise rfl tkOf (EF.oe "InvalidChoice" (by decide +kernel)) rfl)) s_nil)
    (s_one (s_if (c_not (c_val (d_callB (cb_all rfl) rfl g.all_ (by decide +kernel) (r_cons (d_r (d_frz (l_comp (own := [("k", 5)]) rfl sc.nd (i_rng rfl g.range_ (a_cons (d_bin op_subD (d_r (d_callB cb_len rfl g.len_ (by decide +kernel) (r_cons (d_r (d_var (pv 1))) r_nil))) (d_r d_int)) a_nil)) (blkOk_by (own := [("k", 5)]) (N := ["options", "choice", "some", "holder", "weight", "k"]) (sc := defScope (top 71)) (by decide +kernel)) (fun _ _ _ _ _ => (g_name (pg_name (i := 5) sc.nd rfl (Or.inl rfl)))) (fun _ _ _ _ _ => t_yes) (fun _ _ _ _ _ => (d_cmp op_ltD (d_r (d_ix ix_D (d_r (d_var (pv 1))) (d_r (d_var (pv 5))) (fun _ _ => rfl))) (d_r (d_ix ix_D (d_r (d_var (pv 1))) (d_r (d_bin op_addD (d_r (d_var (pv 5))) (d_r d_int))) (fun _ _ => rfl))) (nomark _))) (by decide)))) r_nil)))) (s_one (s_raise rfl tkOf (EF.oe "InvalidChoice" (by decide +kernel)) rfl)) s_nil))))

theorem sc_X_with_choice : FnScope ["ladder", "options", "choice", "rungs", "name", "sums", "weights", "caps", "found", "holder", "weight", "rest", "pair"] ["ladder", "options", "choice"] (defScope (top 72)) := ⟨rfl, rfl, rfl, by decide +kernel, rfl, by decide +kernel, by decide +kernel⟩
theorem cal_X_with_choice {P : Program} {w : World} {K : PySem.W.Frag} {mg : Str → Option Value} {base : Heap} (g : Glob K mg) (F : ∃ f fd, FnP K "with_choice" (top 72) f fd ∧ mg "with_choice" = some (.ref f)) (EF : ExF K mg)  : CalX P w K mg base "with_choice" 1 3 ["ladder", "options", "choice"] F_X_with_choice := by
  obtain ⟨f, fd, F, hm⟩ := F
  refine ⟨f, fd, ?_, hm, F.kp, F.bindsN fun _ _ _ _ _ _ us hl => match us, hl with | [_, _, _], _ => rfl⟩
  have sc := sc_X_with_choice
  refine fn_X (toFun F) sc rfl fun cdv A outer s H E hr => ?_
  have hu := units64 hr
  have hu5 := units65 hr
  have hu1 := units1 hr
  exact (s_cons (s_asg (ps_set (i := 3) sc.nd rfl (Or.inl rfl) (d_tup a_nil)))
    (s_cons (s_for (passes_of rfl) rfl (i_seq (d_slice (d_r (d_ix ix_D (d_r (d_var (pv 0))) (d_r d_int) (fun _ _ => rfl))) o_none (o_some (d_un un_negD (d_r d_int))))) (g_tup rfl (gs_cons (g_name (pg_name (i := 4) sc.nd rfl (Or.inl rfl))) (gs_cons (g_name (pg_name (i := 5) sc.nd rfl (Or.inl rfl))) gs_nil))) (s_cons (s_asg (ps_set (i := 11) sc.nd rfl (Or.inl rfl) (d_callTy ct_tuple rfl g.tuple_ (by decide +kernel) (r_cons (d_r (d_frz (l_comp (own := [("pair", 12)]) rfl sc.nd (i_seq (d_var (pv 5))) (blkOk_by (own := [("pair", 12)]) (N := ["ladder", "options", "choice", "rungs", "name", "sums", "weights", "caps", "found", "holder", "weight", "rest", "pair"]) (sc := defScope (top 72)) (by decide +kernel)) (fun _ _ _ _ _ => (g_name (pg_name (i := 12) sc.nd rfl (Or.inl rfl)))) (fun _ _ _ _ _ => (t_one (c_cmp (op_notInQ hu5) (d_r (d_ix ix_D (d_r (d_var (pv 12))) (d_r d_int) (fun _ _ => rfl))) (d_r (d_var (pv 2))) (by rfl)))) (fun _ _ _ _ _ => (d_var (pv 12))) (by decide)))) r_nil))))
    (s_one (s_asg (ps_set (i := 3) sc.nd rfl (Or.inl rfl) (d_bin op_addD (d_r (d_var (pv 3))) (d_r (d_if (c_cmp (op_neQ hu) (d_r (d_var (pv 11))) (d_r (d_tup a_nil)) (nomark _)) (d_tup (a_cons (d_tup (a_cons (d_var (pv 4)) (a_cons (d_var (pv 11)) a_nil))) a_nil)) (d_tup a_nil)))))))))
    (s_cons (s_asgG (ps_asg (d_ix ix_D (d_r (d_ix ix_D (d_r (d_var (pv 0))) (d_r d_int) (fun _ _ => rfl))) (d_r (d_un un_negD (d_r d_int))) (fun _ _ => rfl)) (g_tup rfl (gs_cons (g_name (pg_name (i := 4) sc.nd rfl (Or.inl rfl))) (gs_cons (g_name (pg_name (i := 6) sc.nd rfl (Or.inl rfl))) (gs_cons (g_name (pg_name (i := 7) sc.nd rfl (Or.inl rfl))) gs_nil))))))
    (s_cons (s_dk (ps_set (i := 8) sc.nd rfl (Or.inr rfl) (k_dictT rfl rfl g.dict_ (by decide +kernel) (d_var (pv 6)))))
    (s_cons (s_for (passes_of rfl) rfl (i_seq (d_var (pv 1))) (g_tup rfl (gs_cons (g_name (pg_name (i := 9) sc.nd rfl (Or.inl rfl))) (gs_cons (g_name (pg_name (i := 10) sc.nd rfl (Or.inl rfl))) gs_nil))) (s_one (s_if (c_cmp (op_inQ hu5) (d_r (d_var (pv 9))) (d_r (d_var (pv 2))) (by rfl)) (s_one (s_dput (ps_dput hu1 (pv 8) (d_var (pv 9)) (d_bin op_addD (d_r (d_dget2 hu1 (pv 8) (d_var (pv 9)) d_int ⟨rfl, rfl, rfl, rfl⟩)) (d_r (d_var (pv 10)))) rfl))) s_nil)))
    (s_cons (s_if (c_val (d_callB (cb_any rfl) rfl g.any_ (by decide +kernel) (r_cons (d_r (d_frz (l_lock 8 (l_comp (own := [("holder", 9)]) rfl sc.nd (i_dk (pv 8)) (blkOk_by (own := [("holder", 9)]) (N := ["ladder", "options", "choice", "rungs", "name", "sums", "weights", "caps", "found", "holder", "weight", "rest", "pair"]) (sc := defScope (top 72)) (by decide +kernel)) (fun _ _ _ _ _ => (g_name (pg_name (i := 9) sc.nd rfl (Or.inl rfl)))) (fun _ _ _ _ _ => t_yes) (fun _ _ _ _ _ => (d_cmp op_gtD (d_r (d_dget hu1 (pv 8) (d_var (pv 9)) (fun _ _ => rfl))) (d_r d_int) (nomark _))) (by decide))))) r_nil))) (s_one (s_raise rfl tkOf (EF.oe "TooMany" (by decide +kernel)) rfl)) s_nil)
    (s_one (s_ret (d_tup (a_cons (d_ix ix_D (d_r (d_var (pv 0))) (d_r d_int) (fun _ _ => rfl)) (a_cons (d_bin op_addD (d_r (d_var (pv 3))) (d_r (d_tup (a_cons (d_tup (a_cons (d_var (pv 4)) (a_cons (d_callTy ct_tuple rfl g.tuple_ (by decide +kernel) (r_cons (d_r (d_frz (l_comp (own := [("holder", 9)]) rfl sc.nd (i_seq (d_frz (l_sortDk rfl rfl g.sorted_ (by decide +kernel) (pv 8)))) (blkOk_by (own := [("holder", 9)]) (N := ["ladder", "options", "choice", "rungs", "name", "sums", "weights", "caps", "found", "holder", "weight", "rest", "pair"]) (sc := defScope (top 72)) (by decide +kernel)) (fun _ _ _ _ _ => (g_name (pg_name (i := 9) sc.nd rfl (Or.inl rfl)))) (fun _ _ _ _ _ => t_yes) (fun _ _ _ _ _ => (d_tup (a_cons (d_var (pv 9)) (a_cons (d_dget hu1 (pv 8) (d_var (pv 9)) (fun _ _ => rfl)) a_nil)))) (by decide)))) r_nil)) (a_cons (d_var (pv 7)) a_nil)))) a_nil)))) a_nil)))))))))))

theorem sc_X_changed : FnScope ["ladder", "options", "choice"] ["ladder", "options", "choice"] (defScope (top 73)) := ⟨rfl, rfl, rfl, by decide +kernel, rfl, by decide +kernel, by decide +kernel⟩
theorem cal_X_changed {P : Program} {w : World} {K : PySem.W.Frag} {mg : Str → Option Value} {base : Heap} (g : Glob K mg) (F : ∃ f fd, FnP K "changed" (top 73) f fd ∧ mg "changed" = some (.ref f)) (c_X_check_simple : CalX P w K mg base "check_simple" 6 1 ["ladder"] F_X_check_simple) (c_X_check_options : CalX P w K mg base "check_options" 3 2 ["ladder", "options"] F_X_check_options) (c_X_check_choice : CalX P w K mg base "check_choice" 2 2 ["options", "choice"] F_X_check_choice) (c_X_with_choice : CalX P w K mg base "with_choice" 1 3 ["ladder", "options", "choice"] F_X_with_choice) : CalX P w K mg base "changed" 7 3 ["ladder", "options", "choice"] F_X_changed := by
  obtain ⟨f, fd, F, hm⟩ := F
  obtain ⟨f_X_check_simple, fd_X_check_simple, ok_X_check_simple, mg_X_check_simple, kp_X_check_simple, bd_X_check_simple⟩ := c_X_check_simple
  obtain ⟨f_X_check_options, fd_X_check_options, ok_X_check_options, mg_X_check_options, kp_X_check_options, bd_X_check_options⟩ := c_X_check_options
  obtain ⟨f_X_check_choice, fd_X_check_choice, ok_X_check_choice, mg_X_check_choice, kp_X_check_choice, bd_X_check_choice⟩ := c_X_check_choice
  obtain ⟨f_X_with_choice, fd_X_with_choice, ok_X_with_choice, mg_X_with_choice, kp_X_with_choice, bd_X_with_choice⟩ := c_X_with_choice
  refine ⟨f, fd, ?_, hm, F.kp, F.bindsN fun _ _ _ _ _ _ us hl => match us, hl with | [_, _, _], _ => rfl⟩
  have sc := sc_X_changed
  refine fn_X (toFun F) sc rfl fun cdv A outer s H E hr => ?_
  have hu := units64 hr
  have hu5 := units65 hr
  have hu1 := units1 hr
  exact (s_cons (s_expr (d_callE ok_X_check_simple (hr.mono (by decide : 6 ≤ 6)) rfl mg_X_check_simple kp_X_check_simple bd_X_check_simple tkOf (a_cons (d_var (pv 0)) a_nil)))
    (s_cons (s_expr (d_callE ok_X_check_options (hr.mono (by decide : 3 ≤ 6)) rfl mg_X_check_options kp_X_check_options bd_X_check_options tkOf (a_cons (d_var (pv 0)) (a_cons (d_var (pv 1)) a_nil))))
    (s_cons (s_expr (d_callE ok_X_check_choice (hr.mono (by decide : 2 ≤ 6)) rfl mg_X_check_choice kp_X_check_choice bd_X_check_choice tkOf (a_cons (d_var (pv 1)) (a_cons (d_var (pv 2)) a_nil))))
    (s_one (s_ret (d_callE ok_X_with_choice (hr.mono (by decide : 1 ≤ 6)) rfl mg_X_with_choice kp_X_with_choice bd_X_with_choice tkOf (a_cons (d_var (pv 0)) (a_cons (d_var (pv 1)) (a_cons (d_var (pv 2)) a_nil)))))))))

theorem sc_X_payments_with : FnScope ["ladder", "options", "amount", "found", "choice"] ["ladder", "options", "amount"] (defScope (top 76)) := ⟨rfl, rfl, rfl, by decide +kernel, rfl, by decide +kernel, by decide +kernel⟩
theorem cal_X_payments_with {P : Program} {w : World} {K : PySem.W.Frag} {mg : Str → Option Value} {base : Heap} (g : Glob K mg) (F : ∃ f fd, FnP K "payments_with" (top 76) f fd ∧ mg "payments_with" = some (.ref f)) (c_choices_of : CalP P w K mg base "choices_of" 1 1 ["options"] F_choices_of) (c_all_payments : CalP P w K mg base "all_payments" 9 2 ["ladder", "amount"] F_all_payments) (c_X_with_choice : CalX P w K mg base "with_choice" 1 3 ["ladder", "options", "choice"] F_X_with_choice) : CalX P w K mg base "payments_with" 10 3 ["ladder", "options", "amount"] F_X_payments_with := by
  obtain ⟨f, fd, F, hm⟩ := F
  obtain ⟨f_choices_of, fd_choices_of, ok_choices_of, mg_choices_of, kp_choices_of, bd_choices_of⟩ := c_choices_of
  obtain ⟨f_all_payments, fd_all_payments, ok_all_payments, mg_all_payments, kp_all_payments, bd_all_payments⟩ := c_all_payments
  obtain ⟨f_X_with_choice, fd_X_with_choice, ok_X_with_choice, mg_X_with_choice, kp_X_with_choice, bd_X_with_choice⟩ := c_X_with_choice
  refine ⟨f, fd, ?_, hm, F.kp, F.bindsN fun _ _ _ _ _ _ us hl => match us, hl with | [_, _, _], _ => rfl⟩
  have sc := sc_X_payments_with
  refine fn_X (toFun F) sc rfl fun cdv A outer s H E hr => ?_
  have hu := units64 hr
  have hu5 := units65 hr
  have hu1 := units1 hr
  exact (s_cons (s_tbN (ps_set (i := 3) sc.nd rfl (Or.inl rfl) pe_tbN))
    (s_cons (s_for (passes_of rfl) rfl (i_seq (d_call ok_choices_of (hr.mono (by decide : 1 ≤ 9)) rfl mg_choices_of kp_choices_of bd_choices_of (a_cons (d_var (pv 1)) a_nil))) (g_name (pg_name (i := 4) sc.nd rfl (Or.inl rfl))) (s_one (s_tput (ps_tput hu1 (pv 3) (d_var (pv 4)) (d_call ok_all_payments (hr.mono (by decide : 9 ≤ 9)) rfl mg_all_payments kp_all_payments bd_all_payments (a_cons (d_callE ok_X_with_choice (hr.mono (by decide : 1 ≤ 9)) rfl mg_X_with_choice kp_X_with_choice bd_X_with_choice tkOf (a_cons (d_var (pv 0)) (a_cons (d_var (pv 1)) (a_cons (d_var (pv 4)) a_nil)))) (a_cons (d_var (pv 2)) a_nil)))))))
    (s_one (s_frzT 3 (s_ret (d_var (pv 3)))))))

theorem sc_X_is_settled : FnScope ["ladder", "options", "amount", "choice"] ["ladder", "options", "amount", "choice"] (defScope (top 77)) := ⟨rfl, rfl, rfl, by decide +kernel, rfl, by decide +kernel, by decide +kernel⟩
theorem cal_X_is_settled {P : Program} {w : World} {K : PySem.W.Frag} {mg : Str → Option Value} {base : Heap} (g : Glob K mg) (F : ∃ f fd, FnP K "is_settled" (top 77) f fd ∧ mg "is_settled" = some (.ref f)) (c_X_check_simple : CalX P w K mg base "check_simple" 6 1 ["ladder"] F_X_check_simple) (c_X_check_options : CalX P w K mg base "check_options" 3 2 ["ladder", "options"] F_X_check_options) (c_X_check_amount : CalX P w K mg base "check_amount" 3 1 ["value"] F_X_check_amount) (c_X_check_choice : CalX P w K mg base "check_choice" 2 2 ["options", "choice"] F_X_check_choice) (c_is_stable : CalP P w K mg base "is_stable" 2 3 ["table", "options", "choice"] F_is_stable) (c_X_payments_with : CalX P w K mg base "payments_with" 10 3 ["ladder", "options", "amount"] F_X_payments_with) : CalX P w K mg base "is_settled" 11 4 ["ladder", "options", "amount", "choice"] F_X_is_settled := by
  obtain ⟨f, fd, F, hm⟩ := F
  obtain ⟨f_X_check_simple, fd_X_check_simple, ok_X_check_simple, mg_X_check_simple, kp_X_check_simple, bd_X_check_simple⟩ := c_X_check_simple
  obtain ⟨f_X_check_options, fd_X_check_options, ok_X_check_options, mg_X_check_options, kp_X_check_options, bd_X_check_options⟩ := c_X_check_options
  obtain ⟨f_X_check_amount, fd_X_check_amount, ok_X_check_amount, mg_X_check_amount, kp_X_check_amount, bd_X_check_amount⟩ := c_X_check_amount
  obtain ⟨f_X_check_choice, fd_X_check_choice, ok_X_check_choice, mg_X_check_choice, kp_X_check_choice, bd_X_check_choice⟩ := c_X_check_choice
  obtain ⟨f_is_stable, fd_is_stable, ok_is_stable, mg_is_stable, kp_is_stable, bd_is_stable⟩ := c_is_stable
  obtain ⟨f_X_payments_with, fd_X_payments_with, ok_X_payments_with, mg_X_payments_with, kp_X_payments_with, bd_X_payments_with⟩ := c_X_payments_with
  refine ⟨f, fd, ?_, hm, F.kp, F.bindsN fun _ _ _ _ _ _ us hl => match us, hl with | [_, _, _, _], _ => rfl⟩
  have sc := sc_X_is_settled
  refine fn_X (toFun F) sc rfl fun cdv A outer s H E hr => ?_
  have hu := units64 hr
  have hu5 := units65 hr
  have hu1 := units1 hr
  exact (s_cons (s_expr (d_callE ok_X_check_simple (hr.mono (by decide : 6 ≤ 10)) rfl mg_X_check_simple kp_X_check_simple bd_X_check_simple tkOf (a_cons (d_var (pv 0)) a_nil)))
    (s_cons (s_expr (d_callE ok_X_check_options (hr.mono (by decide : 3 ≤ 10)) rfl mg_X_check_options kp_X_check_options bd_X_check_options tkOf (a_cons (d_var (pv 0)) (a_cons (d_var (pv 1)) a_nil))))
    (s_cons (s_expr (d_callE ok_X_check_amount (hr.mono (by decide : 3 ≤ 10)) rfl mg_X_check_amount kp_X_check_amount bd_X_check_amount tkOf (a_cons (d_var (pv 2)) a_nil)))
    (s_cons (s_expr (d_callE ok_X_check_choice (hr.mono (by decide : 2 ≤ 10)) rfl mg_X_check_choice kp_X_check_choice bd_X_check_choice tkOf (a_cons (d_var (pv 1)) (a_cons (d_var (pv 3)) a_nil))))
    (s_one (s_ret (d_call ok_is_stable (hr.mono (by decide : 2 ≤ 10)) rfl mg_is_stable kp_is_stable bd_is_stable (a_cons (d_callE ok_X_payments_with (hr.mono (by decide : 10 ≤ 10)) rfl mg_X_payments_with kp_X_payments_with bd_X_payments_with tkOf (a_cons (d_var (pv 0)) (a_cons (d_var (pv 1)) (a_cons (d_var (pv 2)) a_nil)))) (a_cons (d_var (pv 1)) (a_cons (d_var (pv 3)) a_nil))))))))))

theorem sc_X_settled : FnScope ["ladder", "options", "amount", "table", "choice"] ["ladder", "options", "amount"] (defScope (top 78)) := ⟨rfl, rfl, rfl, by decide +kernel, rfl, by decide +kernel, by decide +kernel⟩
theorem cal_X_settled {P : Program} {w : World} {K : PySem.W.Frag} {mg : Str → Option Value} {base : Heap} (g : Glob K mg) (F : ∃ f fd, FnP K "settled" (top 78) f fd ∧ mg "settled" = some (.ref f)) (c_X_check_simple : CalX P w K mg base "check_simple" 6 1 ["ladder"] F_X_check_simple) (c_X_check_options : CalX P w K mg base "check_options" 3 2 ["ladder", "options"] F_X_check_options) (c_X_check_amount : CalX P w K mg base "check_amount" 3 1 ["value"] F_X_check_amount) (c_X_payments_with : CalX P w K mg base "payments_with" 10 3 ["ladder", "options", "amount"] F_X_payments_with) (c_choices_of : CalP P w K mg base "choices_of" 1 1 ["options"] F_choices_of) (c_is_stable : CalP P w K mg base "is_stable" 2 3 ["table", "options", "choice"] F_is_stable) : CalX P w K mg base "settled" 11 3 ["ladder", "options", "amount"] F_X_settled := by
  obtain ⟨f, fd, F, hm⟩ := F
  obtain ⟨f_X_check_simple, fd_X_check_simple, ok_X_check_simple, mg_X_check_simple, kp_X_check_simple, bd_X_check_simple⟩ := c_X_check_simple
  obtain ⟨f_X_check_options, fd_X_check_options, ok_X_check_options, mg_X_check_options, kp_X_check_options, bd_X_check_options⟩ := c_X_check_options
  obtain ⟨f_X_check_amount, fd_X_check_amount, ok_X_check_amount, mg_X_check_amount, kp_X_check_amount, bd_X_check_amount⟩ := c_X_check_amount
  obtain ⟨f_X_payments_with, fd_X_payments_with, ok_X_payments_with, mg_X_payments_with, kp_X_payments_with, bd_X_payments_with⟩ := c_X_payments_with
  obtain ⟨f_choices_of, fd_choices_of, ok_choices_of, mg_choices_of, kp_choices_of, bd_choices_of⟩ := c_choices_of
  obtain ⟨f_is_stable, fd_is_stable, ok_is_stable, mg_is_stable, kp_is_stable, bd_is_stable⟩ := c_is_stable
  refine ⟨f, fd, ?_, hm, F.kp, F.bindsN fun _ _ _ _ _ _ us hl => match us, hl with | [_, _, _], _ => rfl⟩
  have sc := sc_X_settled
  refine fn_X (toFun F) sc rfl fun cdv A outer s H E hr => ?_
  have hu := units64 hr
  have hu5 := units65 hr
  have hu1 := units1 hr
  exact (s_cons (s_expr (d_callE ok_X_check_simple (hr.mono (by decide : 6 ≤ 10)) rfl mg_X_check_simple kp_X_check_simple bd_X_check_simple tkOf (a_cons (d_var (pv 0)) a_nil)))
    (s_cons (s_expr (d_callE ok_X_check_options (hr.mono (by decide : 3 ≤ 10)) rfl mg_X_check_options kp_X_check_options bd_X_check_options tkOf (a_cons (d_var (pv 0)) (a_cons (d_var (pv 1)) a_nil))))
    (s_cons (s_expr (d_callE ok_X_check_amount (hr.mono (by decide : 3 ≤ 10)) rfl mg_X_check_amount kp_X_check_amount bd_X_check_amount tkOf (a_cons (d_var (pv 2)) a_nil)))
    (s_cons (s_asg (ps_set (i := 3) sc.nd rfl (Or.inr rfl) (d_callE ok_X_payments_with (hr.mono (by decide : 10 ≤ 10)) rfl mg_X_payments_with kp_X_payments_with bd_X_payments_with tkOf (a_cons (d_var (pv 0)) (a_cons (d_var (pv 1)) (a_cons (d_var (pv 2)) a_nil))))))
    (s_one (s_ret (d_callTy ct_tuple rfl g.tuple_ (by decide +kernel) (r_cons (d_r (d_frz (l_comp (own := [("choice", 4)]) rfl sc.nd (i_seq (d_call ok_choices_of (hr.mono (by decide : 1 ≤ 10)) rfl mg_choices_of kp_choices_of bd_choices_of (a_cons (d_var (pv 1)) a_nil))) (blkOk_by (own := [("choice", 4)]) (N := ["ladder", "options", "amount", "table", "choice"]) (sc := defScope (top 78)) (by decide +kernel)) (fun _ _ _ _ _ => (g_name (pg_name (i := 4) sc.nd rfl (Or.inl rfl)))) (fun _ _ _ _ _ => (t_one (c_val (d_call ok_is_stable (hr.mono (by decide : 2 ≤ 10)) rfl mg_is_stable kp_is_stable bd_is_stable (a_cons (d_var (pv 3)) (a_cons (d_var (pv 1)) (a_cons (d_var (pv 4)) a_nil))))))) (fun _ _ _ _ _ => (d_var (pv 4))) (by decide)))) r_nil))))))))

theorem sc_X_joined_pairs : FnScope ["pairs", "first", "second", "most", "table", "holder"] ["pairs", "first", "second", "most"] (defScope (top 80)) := ⟨rfl, rfl, rfl, by decide +kernel, rfl, by decide +kernel, by decide +kernel⟩
theorem cal_X_joined_pairs {P : Program} {w : World} {K : PySem.W.Frag} {mg : Str → Option Value} {base : Heap} (g : Glob K mg) (F : ∃ f fd, FnP K "joined_pairs" (top 80) f fd ∧ mg "joined_pairs" = some (.ref f)) (EF : ExF K mg)  : CalX P w K mg base "joined_pairs" 1 4 ["pairs", "first", "second", "most"] F_X_joined_pairs := by
  obtain ⟨f, fd, F, hm⟩ := F
  refine ⟨f, fd, ?_, hm, F.kp, F.bindsN fun _ _ _ _ _ _ us hl => match us, hl with | [_, _, _, _], _ => rfl⟩
  have sc := sc_X_joined_pairs
  refine fn_X (toFun F) sc rfl fun cdv A outer s H E hr => ?_
  have hu := units64 hr
  have hu5 := units65 hr
  have hu1 := units1 hr
  exact (s_cons (s_dk (ps_set (i := 4) sc.nd rfl (Or.inr rfl) (k_dictT rfl rfl g.dict_ (by decide +kernel) (d_var (pv 0)))))
    (s_cons (s_if (c_din hu1 (d_var (pv 2)) (pv 4)) (s_cons (s_dput (ps_dput hu1 (pv 4) (d_var (pv 1)) (d_bin op_addD (d_r (d_dget2 hu1 (pv 4) (d_var (pv 1)) d_int ⟨rfl, rfl, rfl, rfl⟩)) (d_r (d_dget hu1 (pv 4) (d_var (pv 2)) (fun _ _ => rfl)))) rfl))
    (s_one (s_dpop (ps_expr (pe_dpop1 (pv 4) (d_var (pv 2)) ⟨rfl, rfl, rfl, rfl⟩))))) s_nil)
    (s_cons (s_if (c_val (d_callB (cb_any rfl) rfl g.any_ (by decide +kernel) (r_cons (d_r (d_frz (l_lock 4 (l_comp (own := [("holder", 5)]) rfl sc.nd (i_dk (pv 4)) (blkOk_by (own := [("holder", 5)]) (N := ["pairs", "first", "second", "most", "table", "holder"]) (sc := defScope (top 80)) (by decide +kernel)) (fun _ _ _ _ _ => (g_name (pg_name (i := 5) sc.nd rfl (Or.inl rfl)))) (fun _ _ _ _ _ => t_yes) (fun _ _ _ _ _ => (d_cmp op_gtD (d_r (d_dget hu1 (pv 4) (d_var (pv 5)) (fun _ _ => rfl))) (d_r (d_var (pv 3))) (nomark _))) (by decide))))) r_nil))) (s_one (s_raise rfl tkOf (EF.oe "TooMany" (by decide +kernel)) rfl)) s_nil)
    (s_one (s_ret (d_callTy ct_tuple rfl g.tuple_ (by decide +kernel) (r_cons (d_r (d_frz (l_comp (own := [("holder", 5)]) rfl sc.nd (i_seq (d_frz (l_sortDk rfl rfl g.sorted_ (by decide +kernel) (pv 4)))) (blkOk_by (own := [("holder", 5)]) (N := ["pairs", "first", "second", "most", "table", "holder"]) (sc := defScope (top 80)) (by decide +kernel)) (fun _ _ _ _ _ => (g_name (pg_name (i := 5) sc.nd rfl (Or.inl rfl)))) (fun _ _ _ _ _ => t_yes) (fun _ _ _ _ _ => (d_tup (a_cons (d_bin op_subD (d_r (d_var (pv 5))) (d_r (d_callTy ct_int rfl g.int_ (by decide +kernel) (r_cons (d_r (d_cmp op_gtD (d_r (d_var (pv 5))) (d_r (d_var (pv 2))) (nomark _))) r_nil)))) (a_cons (d_dget hu1 (pv 4) (d_var (pv 5)) (fun _ _ => rfl)) a_nil)))) (by decide)))) r_nil)))))))

theorem sc_X_check_fit : FnScope ["rung", "first", "second", "weights", "caps"] ["rung", "first", "second"] (defScope (top 81)) := ⟨rfl, rfl, rfl, by decide +kernel, rfl, by decide +kernel, by decide +kernel⟩
theorem cal_X_check_fit {P : Program} {w : World} {K : PySem.W.Frag} {mg : Str → Option Value} {base : Heap} (g : Glob K mg) (F : ∃ f fd, FnP K "check_fit" (top 81) f fd ∧ mg "check_fit" = some (.ref f)) (EF : ExF K mg)  : CalX P w K mg base "check_fit" 1 3 ["rung", "first", "second"] F_X_check_fit := by
  obtain ⟨f, fd, F, hm⟩ := F
  refine ⟨f, fd, ?_, hm, F.kp, F.bindsN fun _ _ _ _ _ _ us hl => match us, hl with | [_, _, _], _ => rfl⟩
  have sc := sc_X_check_fit
  refine fn_X (toFun F) sc rfl fun cdv A outer s H E hr => ?_
  have hu := units64 hr
  have hu5 := units65 hr
  have hu1 := units1 hr
  exact (s_cons (s_par2 (ps_par (i := 3) (j := 4) rfl sc.nd rfl rfl (by decide) rfl rfl (m_k (k_dictT rfl rfl g.dict_ (by decide +kernel) (d_ix ix_D (d_r (d_var (pv 0))) (d_r d_int) (fun _ _ => rfl))) (m_k (k_dictT rfl rfl g.dict_ (by decide +kernel) (d_ix ix_D (d_r (d_var (pv 0))) (d_r d_int) (fun _ _ => rfl))) m_nil)) rfl))
    (s_one (s_if (PW.pt (c_and (c_din hu1 (d_var (pv 1)) (pv 3)) (c_and1 (c_din hu1 (d_var (pv 2)) (pv 3))))) (s_cons (s_if (c_cmp (op_neQ hu) (d_r (d_din hu1 (d_var (pv 1)) (pv 4))) (d_r (d_din hu1 (d_var (pv 2)) (pv 4))) (nomark _)) (s_one (s_raise rfl tkOf (EF.oe "Unlike" (by decide +kernel)) rfl)) s_nil)
    (s_one (s_if (PW.pt (c_and (c_din hu1 (d_var (pv 1)) (pv 4)) (c_and1 (c_cmp (op_neQ hu) (d_r (d_bin op_mulD (d_r (d_dget hu1 (pv 4) (d_var (pv 1)) (fun _ _ => rfl))) (d_r (d_dget hu1 (pv 3) (d_var (pv 2)) (fun _ _ => rfl))))) (d_r (d_bin op_mulD (d_r (d_dget hu1 (pv 4) (d_var (pv 2)) (fun _ _ => rfl))) (d_r (d_dget hu1 (pv 3) (d_var (pv 1)) (fun _ _ => rfl))))) (nomark _))))) (s_one (s_raise rfl tkOf (EF.oe "Unlike" (by decide +kernel)) rfl)) s_nil))) s_nil)))

theorem sc_X_joined : FnScope ["ladder", "first", "second", "rung", "rungs", "weights"] ["ladder", "first", "second"] (defScope (top 82)) := ⟨rfl, rfl, rfl, by decide +kernel, rfl, by decide +kernel, by decide +kernel⟩
theorem cal_X_joined {P : Program} {w : World} {K : PySem.W.Frag} {mg : Str → Option Value} {base : Heap} (g : Glob K mg) (F : ∃ f fd, FnP K "joined" (top 82) f fd ∧ mg "joined" = some (.ref f)) (EF : ExF K mg) (c_X_check_ladder : CalX P w K mg base "check_ladder" 5 1 ["value"] F_X_check_ladder) (c_X_check_holder : CalX P w K mg base "check_holder" 2 2 ["ladder", "holder"] F_X_check_holder) (c_X_check_fit : CalX P w K mg base "check_fit" 1 3 ["rung", "first", "second"] F_X_check_fit) (c_X_joined_pairs : CalX P w K mg base "joined_pairs" 1 4 ["pairs", "first", "second", "most"] F_X_joined_pairs) : CalX P w K mg base "joined" 6 3 ["ladder", "first", "second"] F_X_joined := by
  obtain ⟨f, fd, F, hm⟩ := F
  obtain ⟨f_X_check_ladder, fd_X_check_ladder, ok_X_check_ladder, mg_X_check_ladder, kp_X_check_ladder, bd_X_check_ladder⟩ := c_X_check_ladder
  obtain ⟨f_X_check_holder, fd_X_check_holder, ok_X_check_holder, mg_X_check_holder, kp_X_check_holder, bd_X_check_holder⟩ := c_X_check_holder
  obtain ⟨f_X_check_fit, fd_X_check_fit, ok_X_check_fit, mg_X_check_fit, kp_X_check_fit, bd_X_check_fit⟩ := c_X_check_fit
  obtain ⟨f_X_joined_pairs, fd_X_joined_pairs, ok_X_joined_pairs, mg_X_joined_pairs, kp_X_joined_pairs, bd_X_joined_pairs⟩ := c_X_joined_pairs
  refine ⟨f, fd, ?_, hm, F.kp, F.bindsN fun _ _ _ _ _ _ us hl => match us, hl with | [_, _, _], _ => rfl⟩
  have sc := sc_X_joined
  refine fn_X (toFun F) sc rfl fun cdv A outer s H E hr => ?_
  have hu := units64 hr
  have hu5 := units65 hr
  have hu1 := units1 hr
  exact (s_cons (s_expr (d_callE ok_X_check_ladder (hr.mono (by decide : 5 ≤ 5)) rfl mg_X_check_ladder kp_X_check_ladder bd_X_check_ladder tkOf (a_cons (d_var (pv 0)) a_nil)))
    (s_cons (s_expr (d_callE ok_X_check_holder (hr.mono (by decide : 2 ≤ 5)) rfl mg_X_check_holder kp_X_check_holder bd_X_check_holder tkOf (a_cons (d_var (pv 0)) (a_cons (d_var (pv 1)) a_nil))))
    (s_cons (s_expr (d_callE ok_X_check_holder (hr.mono (by decide : 2 ≤ 5)) rfl mg_X_check_holder kp_X_check_holder bd_X_check_holder tkOf (a_cons (d_var (pv 0)) (a_cons (d_var (pv 2)) a_nil))))
    (s_cons (s_if (c_cmp op_geD (d_r (d_var (pv 1))) (d_r (d_var (pv 2))) (nomark _)) (s_one (s_raise rfl tkOf (EF.oe "InvalidHolder" (by decide +kernel)) rfl)) s_nil)
    (s_cons (s_for (passes_of rfl) rfl (i_seq (d_ix ix_D (d_r (d_var (pv 0))) (d_r d_int) (fun _ _ => rfl))) (g_name (pg_name (i := 3) sc.nd rfl (Or.inl rfl))) (s_one (s_if (c_cmp (op_eqQ hu) (d_r (d_ix ix_D (d_r (d_var (pv 3))) (d_r d_int) (fun _ _ => rfl))) (d_r d_str) (nomark _)) (s_one (s_expr (d_callE ok_X_check_fit (hr.mono (by decide : 1 ≤ 5)) rfl mg_X_check_fit kp_X_check_fit bd_X_check_fit tkOf (a_cons (d_var (pv 3)) (a_cons (d_var (pv 1)) (a_cons (d_var (pv 2)) a_nil)))))) s_nil)))
    (s_cons (s_own (ps_set (i := 4) sc.nd rfl (Or.inl rfl) (l_lst a_nil)))
    (s_cons (s_for (passes_of rfl) rfl (i_seq (d_ix ix_D (d_r (d_var (pv 0))) (d_r d_int) (fun _ _ => rfl))) (g_name (pg_name (i := 3) sc.nd rfl (Or.inl rfl))) (s_one (s_if (c_cmp (op_eqQ hu) (d_r (d_ix ix_D (d_r (d_var (pv 3))) (d_r d_int) (fun _ _ => rfl))) (d_r d_str) (nomark _)) (s_one (s_app (ps_expr (pe_bm PySem.F.plainAttrs_list PySem.F.slot_list_append PySem.F.type_list_append mt_append (pv 4) (pa_cons (d_tup (a_cons d_str (a_cons (d_callE ok_X_joined_pairs (hr.mono (by decide : 1 ≤ 5)) rfl mg_X_joined_pairs kp_X_joined_pairs bd_X_joined_pairs tkOf (a_cons (d_ix ix_D (d_r (d_var (pv 3))) (d_r d_int) (fun _ _ => rfl)) (a_cons (d_var (pv 1)) (a_cons (d_var (pv 2)) (a_cons d_int a_nil))))) a_nil))) pa_nil))))) (s_cons (s_asg (ps_set (i := 5) sc.nd rfl (Or.inl rfl) (d_callE ok_X_joined_pairs (hr.mono (by decide : 1 ≤ 5)) rfl mg_X_joined_pairs kp_X_joined_pairs bd_X_joined_pairs tkOf (a_cons (d_ix ix_D (d_r (d_var (pv 3))) (d_r d_int) (fun _ _ => rfl)) (a_cons (d_var (pv 1)) (a_cons (d_var (pv 2)) (a_cons d_int a_nil)))))))
    (s_one (s_app (ps_expr (pe_bm PySem.F.plainAttrs_list PySem.F.slot_list_append PySem.F.type_list_append mt_append (pv 4) (pa_cons (d_tup (a_cons d_str (a_cons (d_var (pv 5)) (a_cons (d_callE ok_X_joined_pairs (hr.mono (by decide : 1 ≤ 5)) rfl mg_X_joined_pairs kp_X_joined_pairs bd_X_joined_pairs tkOf (a_cons (d_ix ix_D (d_r (d_var (pv 3))) (d_r d_int) (fun _ _ => rfl)) (a_cons (d_var (pv 1)) (a_cons (d_var (pv 2)) (a_cons d_int a_nil))))) a_nil)))) pa_nil)))))))))
    (s_one (s_ret (d_tup (a_cons (d_bin op_subD (d_r (d_ix ix_D (d_r (d_var (pv 0))) (d_r d_int) (fun _ _ => rfl))) (d_r d_int)) (a_cons (d_callTy ct_tuple rfl g.tuple_ (by decide +kernel) (r_cons (d_bor (pv 4)) r_nil)) a_nil))))))))))))

end Sx

namespace Sx
open PySem PySem.Spec PyProof.Rows L2 Mx
def lstOf : Res Dt → List Dt
  | .ok (.list ds) => ds
  | _ => []
def BADS : List Dt := lstOf (F__law_bads [])
def WRS : List Dt := lstOf (F__law_wrongs [])
theorem bads_eq : F__law_bads [] = .ok (.list BADS) := by kernel_rfl
theorem wrs_eq : F__law_wrongs [] = .ok (.list WRS) := by kernel_rfl
theorem bads_len : BADS.length = 34 := by kernel_rfl
theorem wrs_len : WRS.length = 148 := by kernel_rfl
def okR (n : Int) : Res Dt → Bool
  | .ok (.tuple [.str s, .int i]) => decide (s = "raised") && decide (i = n)
  | _ => false
theorem okR_eq {n : Int} {r : Res Dt} (h : okR n r = true) : r = .ok (.tuple [.str "raised", .int n]) := by
  unfold okR at h
  split at h
  · simp only [Bool.and_eq_true, decide_eq_true_eq] at h
    rw [h.1, h.2]
  · cases h
def pl01 : Dt := .tuple [.int 2, .tuple [.tuple [.str "fixed", .tuple [.tuple [.int 0, .int 9]]], .tuple [.str "shares", .tuple [.tuple [.int 0, .int 1], .tuple [.int 1, .int 3]], .tuple []]]]
def la01 : Dt := .tuple [.str "shares", .tuple [.tuple [.int 0, .int 20]], .tuple []]
def notL : Res Dt → Bool
  | .ok (.bool false) => true
  | _ => false
def chkB (d : Dt) : Bool := notL (F_is_ladder [d]) && (List.range 17).all fun w => okR 0 (F__law_outcome [.int (w : Int), .tuple [d, .none, .none, .none]])
theorem bads_chk : BADS.all chkB = true := by kernel_rfl
def chkW : Dt → Bool
  | .tuple [.int w, a, b, .str nm] => match F__law_raises [.str nm] with
    | .ok (.tuple [.str s, .int i]) => decide (s = "raised") && okR i (F__law_outcome [.int w, .tuple [pl01, a, b]])
    | _ => false
  | _ => false
theorem wrs_chk : WRS.all chkW = true := by kernel_rfl
theorem bad_lad {d : Dt} (h : d ∈ BADS) : F_is_ladder [d] = .ok (.bool false) := by
  have := List.all_eq_true.mp bads_chk d h
  unfold chkB at this
  rw [Bool.and_eq_true] at this
  have q := this.1
  unfold notL at q
  split at q
  · assumption
  · cases q
theorem bad_out {d : Dt} (h : d ∈ BADS) {w : Nat} (hw : w < 17) : F__law_outcome [.int (w : Int), .tuple [d, .none, .none, .none]] = .ok (.tuple [.str "raised", .int 0]) := by
  have := List.all_eq_true.mp bads_chk d h
  unfold chkB at this
  rw [Bool.and_eq_true, List.all_eq_true] at this
  exact okR_eq (this.2 w (List.mem_range.mpr hw))
theorem wr_out {v : Dt} (h : v ∈ WRS) : ∃ (w : Int) (a b : Dt) (nm : Str) (i : Int), v = .tuple [.int w, a, b, .str nm] ∧ F__law_outcome [.int w, .tuple [pl01, a, b]] = .ok (.tuple [.str "raised", .int i]) ∧ F__law_raises [.str nm] = .ok (.tuple [.str "raised", .int i]) := by
  have q := List.all_eq_true.mp wrs_chk v h
  unfold chkW at q
  split at q
  · rename_i w a b nm
    split at q
    · rename_i s i e
      simp only [Bool.and_eq_true, decide_eq_true_eq] at q
      refine ⟨w, a, b, nm, i, rfl, okR_eq q.2, ?_⟩
      rw [e, q.1]
    · cases q
  · cases q

abbrev P01 (ns : List Int) (x2 x3 x4 x5 x6 x7 x8 x9 x10 x11 x12 : Option SV) : Sl := [some (.d (scD ns)), some .town, x2, x3, x4, x5, x6, x7, x8, x9, x10, x11, x12, none, none]
section
variable {ns : List Int} {W : Tw} {l : Lad}
theorem ra_lad : F__law_raises [.str "ladder"] = .ok (.tuple [.str "raised", .int 0]) := by kernel_rfl
theorem nm_lad : F__law_name "InvalidLadder" = .ok (.int 0) := by kernel_rfl
theorem in_lad : ("InvalidLadder" : Str) ∈ excN := by decide +kernel
theorem out_exc {w : Int} {a n : Dt} {c : Str} (h : F__law_call [.int w, a] = .exc c) (hc : c ∈ excN) (hn : F__law_name c = .ok n) : F__law_outcome [.int w, a] = .ok (.tuple [.str "raised", n]) := by
  unfold F__law_outcome
  simp only [B__law_outcome]
  simp [sTryC, h, hc, eIsN, eCallN, hn]
theorem chk_lad {d : Dt} (h : F_is_ladder [d] = .ok (.bool false)) : F_X_check_ladder [d] = .exc "InvalidLadder" := by
  unfold F_X_check_ladder
  simp only [B_X_check_ladder]
  simp [h]
theorem both_bad {d : Dt} (k : l.Ok) (h : F_is_ladder [d] = .ok (.bool false)) : F_X_check_both [ld l, d] = .exc "InvalidLadder" := by
  have c1 := le_X_check_ladder.ok (check_ladder_ok k)
  have c2 := chk_lad h
  unfold F_X_check_both
  simp only [B_X_check_both]
  generalize ld l = L at *
  simp [c1, c2]
theorem gains_bad {d e : Dt} (k : l.Ok) (h : F_is_ladder [d] = .ok (.bool false)) : F_X_gains [ld l, d, e] = .exc "InvalidLadder" := by
  have c1 := le_X_check_ladder.ok (check_ladder_ok k)
  have c2 := chk_lad h
  have c3 := both_bad k h
  unfold F_X_gains
  simp only [B_X_gains]
  generalize ld l = L at *
  simp [c1, c2, c3]
theorem alike_bad {d : Dt} (k : l.Ok) (h : F_is_ladder [d] = .ok (.bool false)) : F_X_are_alike [ld l, d] = .exc "InvalidLadder" := by
  have c1 := le_X_check_ladder.ok (check_ladder_ok k)
  have c2 := chk_lad h
  have c3 := both_bad k h
  have c4 : F_X_parting_after [ld l, d] = .exc "InvalidLadder" := by
    unfold F_X_parting_after
    simp only [B_X_parting_after]
    generalize ld l = L at *
    simp [c1, c2, c3]
  unfold F_X_are_alike
  simp only [B_X_are_alike]
  generalize ld l = L at *
  simp [c1, c2, c3, c4]
theorem part_bad {d : Dt} (k : l.Ok) (h : F_is_ladder [d] = .ok (.bool false)) : F_X_parting_after [ld l, d] = .exc "InvalidLadder" := by
  have c1 := le_X_check_ladder.ok (check_ladder_ok k)
  have c2 := chk_lad h
  have c3 := both_bad k h
  unfold F_X_parting_after
  simp only [B_X_parting_after]
  generalize ld l = L at *
  simp [c1, c2, c3]
theorem call3 {a b c d : Dt} : (∀ r, F_X_gains [a, b, c] = .exc r → F__law_call [.int 10, .tuple [a, b, c, d]] = .exc r) ∧ (∀ r, F_X_are_alike [a, b] = .exc r → F__law_call [.int 12, .tuple [a, b, c, d]] = .exc r) ∧ (∀ r, F_X_parting_after [a, b] = .exc r → F__law_call [.int 13, .tuple [a, b, c, d]] = .exc r) := by
  have hs : cutD [a, b, c, d] none (some 3) = [a, b, c] := cutD_take (n := 3)
  refine ⟨fun r h => ?_, fun r h => ?_, fun r h => ?_⟩
  · unfold F__law_call
    simp only [B__law_call]
    have e : atI ((3, F_X_pay_next) :: ((3, F_X_least_amount) :: ((3, F_X_rate_after) :: ((3, F_X_greatest_part) :: ((3, F_X_least_part) :: ((3, F_X_gains) :: ((3, F_X_joined) :: []))))))) 5 = some (3, F_X_gains) := rfl
    simp [hs, sAskd, eCallIx, callAt, e, h]
  · unfold F__law_call
    simp only [B__law_call]
    have e : atI ((2, F_X_are_alike) :: ((2, F_X_parting_after) :: [])) 0 = some (2, F_X_are_alike) := rfl
    simp [hs, sAskd, eCallIx, callAt, e, h]
  · unfold F__law_call
    simp only [B__law_call]
    have e : atI ((2, F_X_are_alike) :: ((2, F_X_parting_after) :: [])) 1 = some (2, F_X_parting_after) := rfl
    simp [hs, sAskd, eCallIx, callAt, e, h]
theorem way_loop {x2 x3 x4 x7 x8 x9 x10 x11 x12 : Option SV} {d : Dt} (hd : d ∈ BADS) : ∀ (ws : List Nat) (x6 : Option SV), (∀ w ∈ ws, w < 17) →
    ∃ y6, fL (gN 6) lB_law_3 (ws.map iD) (P01 ns x2 x3 x4 (some (.d d)) x6 x7 x8 x9 x10 x11 x12) W = .nx (P01 ns x2 x3 x4 (some (.d d)) y6 x7 x8 x9 x10 x11 x12) W
  | [], x6, _ => ⟨x6, rfl⟩
  | w :: ws, x6, h => by
    obtain ⟨y6, ih⟩ := way_loop (x2 := x2) (x3 := x3) (x4 := x4) (x7 := x7) (x8 := x8) (x9 := x9) (x10 := x10) (x11 := x11) (x12 := x12) hd ws (some (.d (iD w))) fun q hq => h q (List.mem_cons_of_mem _ hq)
    refine ⟨y6, ?_⟩
    have o := bad_out hd (h w List.mem_cons_self)
    have r := ra_lad
    have n0 : neD (.tuple [.str "raised", .int 0]) (.tuple [.str "raised", .int 0]) = some (.bool false) := raised 0
    rw [List.map_cons, fL_step (ρ1 := P01 ns x2 x3 x4 (some (.d d)) (some (.d (iD w))) x7 x8 x9 x10 x11 x12) (ρ2 := P01 ns x2 x3 x4 (some (.d d)) (some (.d (iD w))) x7 x8 x9 x10 x11 x12) (W2 := W) rfl (by simp [lB_law_3, P01, o, r, n0])]
    exact ih
theorem wr_loop {x2 x3 x4 x5 x9 : Option SV} (hl : ns.length ≤ 63) : ∀ (ks : List Nat) (m : Nat) (ws : List Dt) (x6 x8 x10 x11 x12 : Option SV), Tn ns (m + ks.length) ws →
    ∃ (ws' : List Dt) (y6 y8 y10 y11 y12 : Option SV), Tn ns m ws' ∧ fL (gN 8) lB_law_5 (ks.map iD) (P01 ns x2 x3 x4 x5 x6 (some (.d pl01)) x8 x9 x10 x11 x12) (some ws) = .nx (P01 ns x2 x3 x4 x5 y6 (some (.d pl01)) y8 x9 y10 y11 y12) (some ws')
  | [], m, ws, x6, x8, x10, x11, x12, t => ⟨ws, x6, x8, x10, x11, x12, t, rfl⟩
  | k :: ks, m, ws, x6, x8, x10, x11, x12, t => by
    obtain ⟨v, ws1, hp, hv, t1⟩ := pick_ok (k := true) (cs := WRS) (m := m + ks.length) hl (by rw [wrs_len]; decide) (by rw [wrs_len]; decide) (by rw [Nat.add_assoc]; exact t)
    have hp : F__law_pick [scD ns, .list WRS] ws = .ok (v, ws1) := hp
    obtain ⟨w, a, b, nm, i, ev, o, r⟩ := wr_out hv
    subst ev
    obtain ⟨ws', y6, y8, y10, y11, y12, t', ih⟩ := wr_loop (x2 := x2) (x3 := x3) (x4 := x4) (x5 := x5) (x9 := x9) hl ks m ws1 (some (.d (.int w))) (some (.d (iD k))) (some (.d a)) (some (.d b)) (some (.d (.str nm))) t1
    refine ⟨ws', y6, y8, y10, y11, y12, t', ?_⟩
    have hw := wrs_eq
    have hn : neD (.tuple [.str "raised", .int i]) (.tuple [.str "raised", .int i]) = some (.bool false) := Gq.ne (k := 2) (.tup (.cons ⟨by decide +kernel, Nat.zero_le _, by decide +kernel⟩ (.cons .int .nil))) (by decide)
    rw [List.map_cons, fL_step (ρ1 := P01 ns x2 x3 x4 x5 x6 (some (.d pl01)) (some (.d (iD k))) x9 x10 x11 x12) (ρ2 := P01 ns x2 x3 x4 x5 (some (.d (.int w))) (some (.d pl01)) (some (.d (iD k))) x9 (some (.d a)) (some (.d b)) (some (.d (.str nm)))) (W2 := some ws1) rfl ?_]
    · exact ih
    · generalize pl01 = PL at *
      generalize WRS = WR at *
      simp [lB_law_5, P01, hw, hp, o, r, hn]
theorem no_bads {ρ : Sl} (h5 : 5 < ρ.length) : ∀ (ds : List Dt), (∀ d ∈ ds, F_is_ladder [d] = .ok (.bool false)) → cL (gN 5) cC_law_2 cE_law_2 ρ ds W = .ok ([], W)
  | [], _ => rfl
  | d :: ds, h => by
    have ih := no_bads h5 ds fun q hq => h q (List.mem_cons_of_mem _ hq)
    have hd := h d List.mem_cons_self
    have e1 : isNotD (.bool false) (.bool false) = some (.bool false) := rfl
    unfold cL
    have e2 : gN 5 d ρ = some (ρ.set 5 (some (.d d))) := by simp [h5]
    rw [e2]
    simp only
    have e3 : cC_law_2 (ρ.set 5 (some (.d d))) W = .ok (false, W) := by
      simp [cC_law_2, h5, hd, e1]
    rw [e3]
    simp [ih]
def g2 : Dt := .tuple [.int 1, .tuple [la01]]
def g3 : Dt := .tuple [.int 5, .tuple [.tuple [.str "fixed", .tuple [.tuple [.int 4, .int 999]]], .tuple [.str "fixed", .tuple [.tuple [.int 4, .int 999]]], .tuple [.str "fixed", .tuple [.tuple [.int 4, .int 999]]], la01]]
def g4 : Dt := .tuple [.int 1, .tuple [.tuple [.str "shares", .tuple [.tuple [.int 0, .int 1]], .tuple [.tuple [.int 0, .int 9]]], la01]]
theorem z01_i2 : F_is_ladder [g2] = .ok (.bool true) := by kernel_rfl
theorem z01_i3 : F_is_ladder [g3] = .ok (.bool true) := by kernel_rfl
theorem z01_i4 : F_is_ladder [g4] = .ok (.bool true) := by kernel_rfl
theorem z01_a1 : F_is_amount [.tuple [.int 0, .int 1]] = .ok (.bool true) := by kernel_rfl
theorem z01_a2 : F_is_amount [.tuple [.int 1000000, .int 1]] = .ok (.bool true) := by kernel_rfl
theorem z01_a3 : F_is_amount [.tuple [.int 1, .int 1000]] = .ok (.bool true) := by kernel_rfl
theorem z01_a4 : F_is_amount [.tuple [.int 999999999, .int 1000]] = .ok (.bool true) := by kernel_rfl
theorem z01_a5 : F_is_amount [.tuple [.int 1000000001, .int 1000]] = .ok (.bool false) := by kernel_rfl
theorem z01_u1 : F__law_outcome [.int 12, .tuple [pl01, g2, .none]] = .ok (.tuple [.str "raised", .int 8]) := by kernel_rfl
theorem z01_u2 : F__law_raises [.str "unlike"] = .ok (.tuple [.str "raised", .int 8]) := by kernel_rfl
theorem z01_v1 : F__law_outcome [.int 10, .tuple [pl01, pl01, .int 2]] = .ok (.tuple [.str "raised", .int 1]) := by kernel_rfl
theorem z01_v2 : F__law_raises [.str "holder"] = .ok (.tuple [.str "raised", .int 1]) := by kernel_rfl
theorem z01_q1 : eqD (.tuple [.str "raised", .int 1]) (.tuple [.str "raised", .int 1]) = some (.bool true) := by kernel_rfl
theorem z01_v3 : F_pay [pl01, .tuple [.int 0, .int 1]] = .ok (.tuple [.tuple [.int 0, .int 1], .tuple [.int 0, .int 1]]) := by kernel_rfl
theorem z01_q2 : eqD (.tuple [.tuple [.int 0, .int 1], .tuple [.int 0, .int 1]]) (.tuple [.tuple [.int 0, .int 1], .tuple [.int 0, .int 1]]) = some (.bool true) := by kernel_rfl
theorem z01_m3 : mulD (.tuple [.tuple [.str "fixed", .tuple [.tuple [.int 4, .int 999]]]]) (.int 3) = some (.tuple [.tuple [.str "fixed", .tuple [.tuple [.int 4, .int 999]]], .tuple [.str "fixed", .tuple [.tuple [.int 4, .int 999]]], .tuple [.str "fixed", .tuple [.tuple [.int 4, .int 999]]]]) := by kernel_rfl
theorem st6 {L G2 G3 G4 LA : Dt} (il : F_is_ladder [L] = .ok (.bool true)) (i2 : F_is_ladder [G2] = .ok (.bool true)) (i3 : F_is_ladder [G3] = .ok (.bool true)) (i4 : F_is_ladder [G4] = .ok (.bool true)) :
    (fun ρ W => (sIf (bOf (eBin neD (eFrz (lComp (iSeq (eVar 4)) (gN 13) cC_law_1 cE_law_1 [13])) (eFrz (lLst aNil)))) (sRet (eC (.bool false))) sPass) (frzS 4 ρ) W) (P01 ns (some (.d L)) (some (.d LA)) (some (.own [L, G2, G3, G4])) none none none none none none none none) W = .nx (P01 ns (some (.d L)) (some (.d LA)) (some (.d (.list [L, G2, G3, G4]))) none none none none none none none none) W := by
  have it : isNotD (.bool true) (.bool true) = some (.bool false) := rfl
  have nn : neD (.list []) (.list []) = some (.bool false) := neD_nil (ds := []) (k := 1) rfl (by decide)
  simp [P01, wipeOk, cL, cC_law_1, cE_law_1, il, i2, i3, i4, it, nn]
theorem st7 {Fb : List Dt → Res Dt} {BD : List Dt} {L LA G : Dt} (hbe : Fb [] = .ok (.list BD)) (hbln : BD.length ≤ 100000) (nob : cL (gN 5) cC_law_2 cE_law_2 (P01 ns (some (.d L)) (some (.d LA)) (some (.d G)) none none none none none none none none) BD W = .ok ([], W)) :
    sIf (bOf (eBin neD (eFrz (lComp (iSeq (eCall 0 Fb aNil)) (gN 5) cC_law_2 cE_law_2 [5])) (eFrz (lLst aNil)))) (sRet (eC (.bool false))) sPass (P01 ns (some (.d L)) (some (.d LA)) (some (.d G)) none none none none none none none none) W = .nx (P01 ns (some (.d L)) (some (.d LA)) (some (.d G)) none none none none none none none none) W := by
  have nn : neD (.list []) (.list []) = some (.bool false) := neD_nil (ds := []) (k := 1) rfl (by decide)
  simp only [P01] at nob
  simp [P01, hbe, hbln, wipeOk, nob, nn]
theorem st8 {Fb : List Dt → Res Dt} {BD ws1 ws2 : List Dt} {L LA G bad : Dt} (hbe : Fb [] = .ok (.list BD)) (e2 : F__law_pick [scD ns, .list BD] ws1 = .ok (bad, ws2)) :
    sAsg 5 (eCallT 1 F__law_pick (eVar 0) 1 (aCons (eCall 0 Fb aNil) aNil)) (P01 ns (some (.d L)) (some (.d LA)) (some (.d G)) none none none none none none none none) (some ws1) = .nx (P01 ns (some (.d L)) (some (.d LA)) (some (.d G)) (some (.d bad)) none none none none none none none) (some ws2) := by
  simp [P01, hbe, e2]
theorem law_true (ns : List Int) (hl : ns.length ≤ 63) : F_law [.list (ns.map PyData.int)] = .ok (.bool true) := by
  obtain ⟨l, ws1, e1, k, hn5, t1⟩ := ladder_ok (ns := ns) (most := 5) (m := 500000) hl (by decide) (by decide) ((Tn.start ns).mono (by decide))
  have e0 := town_ok ns hl
  have e1 : F__law_ladder [scD ns, .int 5] (.int 0 :: ns.map PyData.int) = .ok (ld l, ws1) := e1
  obtain ⟨bad, ws2, e2, hbad, t2⟩ := pick_ok (ns := ns) (k := true) (cs := BADS) (m := 400000) hl (by rw [bads_len]; decide) (by rw [bads_len]; decide) (t1.mono (by decide))
  have e2 : F__law_pick [scD ns, .list BADS] ws1 = .ok (bad, ws2) := e2
  have hbl := bad_lad hbad
  have il := is_ladder_true k
  have i2 := z01_i2
  have i3 := z01_i3
  have i4 := z01_i4
  have it : isNotD (.bool true) (.bool true) = some (.bool false) := rfl
  have nn : neD (.list []) (.list []) = some (.bool false) := neD_nil (ds := []) (k := 1) rfl (by decide)
  have hbe := bads_eq
  have hbln : BADS.length ≤ 100000 := by rw [bads_len]; decide
  have nob := no_bads (W := some ws1) (ρ := P01 ns (some (.d (ld l))) (some (.d la01)) (some (.d (.list [ld l, g2, g3, g4]))) none none none none none none none none) (by simp) BADS fun d hd => bad_lad hd
  obtain ⟨y6, lw⟩ := way_loop (ns := ns) (W := some ws2) (x2 := some (.d (ld l))) (x3 := some (.d la01)) (x4 := some (.d (.list [ld l, g2, g3, g4]))) (x7 := none) (x8 := none) (x9 := none) (x10 := none) (x11 := none) (x12 := none) hbad (List.range 17) none fun w hw => List.mem_range.mp hw
  have hr17 : rngOf [.int 17] = some ((List.range 17).map iD) := rngOf_n (n := 17) (by decide)
  have hr40 : rngOf [.int 40] = some ((List.range 40).map iD) := rngOf_n (n := 40) (by decide)
  have o10 := out_exc (call3.1 _ (gains_bad (e := .none) k hbl)) in_lad nm_lad (a := .tuple [ld l, bad, .none, .none])
  have o12 := out_exc (call3.2.1 _ (alike_bad k hbl)) in_lad nm_lad (a := .tuple [ld l, bad, .none, .none])
  have o13 := out_exc (call3.2.2 _ (part_bad k hbl)) in_lad nm_lad (a := .tuple [ld l, bad, .none, .none])
  have rl := ra_lad
  have n0 : neD (.tuple [.str "raised", .int 0]) (.tuple [.str "raised", .int 0]) = some (.bool false) := raised 0
  obtain ⟨ws3, z6, z8, z10, z11, z12, t3, lv⟩ := wr_loop (ns := ns) (x2 := some (.d (ld l))) (x3 := some (.d la01)) (x4 := some (.d (.list [ld l, g2, g3, g4]))) (x5 := some (.d bad)) (x9 := none) hl (List.range 40) 1000 ws2 (some (.d (.int 13))) none none none none (t2.mono (by simp))
  have a1 := z01_a1
  have a2 := z01_a2
  have a3 := z01_a3
  have a4 := z01_a4
  have a5 := z01_a5
  have jf : isNotD (.bool false) (.bool false) = some (.bool false) := rfl
  have u1 := z01_u1
  have u2 := z01_u2
  have n8 : neD (.tuple [.str "raised", .int 8]) (.tuple [.str "raised", .int 8]) = some (.bool false) := raised 8
  have v1 := z01_v1
  have v2 := z01_v2
  have q1 := z01_q1
  have v3 := z01_v3
  have q2 := z01_q2
  have m3 := z01_m3
  have hla : (.tuple [.str "shares", .tuple [.tuple [.int 0, .int 20]], .tuple []] : Dt) = la01 := rfl
  have hg2 : ∀ x, x = la01 → (.tuple [.int 1, .tuple [x]] : Dt) = g2 := fun x h => by rw [h]; rfl
  have hpl : (.tuple [.int 2, .tuple [.tuple [.str "fixed", .tuple [.tuple [.int 0, .int 9]]], .tuple [.str "shares", .tuple [.tuple [.int 0, .int 1], .tuple [.int 1, .int 3]], .tuple []]]] : Dt) = pl01 := rfl
  refine runP_ex (B := B_law) (m := 15) (ds := [scD ns]) ?_
  unfold B_law
  generalize ld l = L at *
  refine sSeq_ex (ρ1 := P01 ns none none none none none none none none none none none) (W1 := some (.int 0 :: ns.map PyData.int)) (by simp [e0, P01]) ?_
  refine sSeq_ex (ρ1 := P01 ns (some (.d L)) none none none none none none none none none none) (W1 := some ws1) (by simp [e1, P01]) ?_
  refine sSeq_ex (ρ1 := P01 ns (some (.d L)) (some (.d la01)) none none none none none none none none none) (W1 := some ws1) (by simp [P01, la01]) ?_
  refine sSeq_ex (ρ1 := P01 ns (some (.d L)) (some (.d la01)) (some (.own [L, g2, g3])) none none none none none none none none) (W1 := some ws1) (by
    simp [P01, m3, g2, g3]) ?_
  refine sSeq_ex (ρ1 := P01 ns (some (.d L)) (some (.d la01)) (some (.own [L, g2, g3, g4])) none none none none none none none none) (W1 := some ws1) (by
    simp [P01, g4]) ?_
  refine sSeq_ex (ρ1 := P01 ns (some (.d L)) (some (.d la01)) (some (.d (.list [L, g2, g3, g4]))) none none none none none none none none) (W1 := some ws1) (st6 il i2 i3 i4) ?_
  generalize g3 = G3 at *
  generalize g4 = G4 at *
  simp only [P01] at lw lv
  have nn' := nn
  refine sSeq_ex (ρ1 := P01 ns (some (.d L)) (some (.d la01)) (some (.d (.list [L, g2, G3, G4]))) none none none none none none none none) (W1 := some ws1) (st7 hbe hbln nob) ?_
  refine sSeq_ex (ρ1 := P01 ns (some (.d L)) (some (.d la01)) (some (.d (.list [L, g2, G3, G4]))) (some (.d bad)) none none none none none none none) (W1 := some ws2) (st8 hbe e2) ?_
  refine sSeq_ex (ρ1 := P01 ns (some (.d L)) (some (.d la01)) (some (.d (.list [L, g2, G3, G4]))) (some (.d bad)) y6 none none none none none none) (W1 := some ws2) (by
    generalize (List.range 17).map iD = R17 at *
    simp [P01, hr17, lw]) ?_
  refine sSeq_ex (ρ1 := P01 ns (some (.d L)) (some (.d la01)) (some (.d (.list [L, g2, G3, G4]))) (some (.d bad)) (some (.d (.int 13))) none none none none none none) (W1 := some ws2) (by
    simp [P01, lB_law_4, o10, o12, o13, rl, n0]) ?_
  refine sSeq_ex (ρ1 := P01 ns (some (.d L)) (some (.d la01)) (some (.d (.list [L, g2, G3, G4]))) (some (.d bad)) (some (.d (.int 13))) (some (.d pl01)) none none none none none) (W1 := some ws2) (by
    simp [P01, pl01]) ?_
  refine sSeq_ex (ρ1 := P01 ns (some (.d L)) (some (.d la01)) (some (.d (.list [L, g2, G3, G4]))) (some (.d bad)) z6 (some (.d pl01)) z8 none z10 z11 z12) (W1 := some ws3) (by
    generalize (List.range 40).map iD = R40 at *
    simp [P01, hr40, lv]) ?_
  refine sSeq_ex (ρ1 := P01 ns (some (.d L)) (some (.d la01)) (some (.d (.list [L, g2, G3, G4]))) (some (.d bad)) z6 (some (.d pl01)) z8 (some (.d (.list [.tuple [.int 0, .int 1], .tuple [.int 1000000, .int 1], .tuple [.int 1, .int 1000], .tuple [.int 999999999, .int 1000]]))) z10 z11 z12) (W1 := some ws3) (by
    simp [P01]) ?_
  refine sSeq_ex (ρ1 := P01 ns (some (.d L)) (some (.d la01)) (some (.d (.list [L, g2, G3, G4]))) (some (.d bad)) z6 (some (.d pl01)) z8 (some (.d (.list [.tuple [.int 0, .int 1], .tuple [.int 1000000, .int 1], .tuple [.int 1, .int 1000], .tuple [.int 999999999, .int 1000]]))) z10 z11 z12) (W1 := some ws3) (by
    simp [P01, wipeOk, cL, cC_law_6, cE_law_6, a1, a2, a3, a4, a5, it, jf, nn]) ?_
  refine sSeq_ex (ρ1 := P01 ns (some (.d L)) (some (.d la01)) (some (.d (.list [L, g2, G3, G4]))) (some (.d bad)) z6 (some (.d pl01)) z8 (some (.d (.list [.tuple [.int 0, .int 1], .tuple [.int 1000000, .int 1], .tuple [.int 1, .int 1000], .tuple [.int 999999999, .int 1000]]))) z10 z11 z12) (W1 := some ws3) (by
    have hg := hg2 la01 rfl
    simp [P01, hg, u1, u2, n8]) ?_
  refine ⟨some ws3, ?_⟩
  simp [P01, v1, v2, q1, v3, q2]
end
end Sx

namespace Sx
open PySem PySem.Spec PyProof.Rows L2

theorem facts {P : Program} {w : World} {K : PySem.W.Frag} {h : Heap} {mg : Str → Option Value} {f : Addr} (KX : K.In h) (G : h.Ns mainGlobals mg) (hfa : mg ("law" : Str) = some (.ref f)) (c : He.SaysX fa fn [] lamNames (exL2 exZE) w h K) :
    ∃ fd : FuncData, (∀ (s : Shared) (v : Value), BindsTo s fd ⟨[v], []⟩ [("script", v)]) ∧ ∀ base : Heap, K.In base → base.Ns mainGlobals mg → (∀ p ∈ lamNames.map (He.cT K), LamX.TabB base mg p.1 p.2) → FnOk P w K mg base CX0 14 f fd ["script"] (spP K 1 F_law) := by
  have cT := c.t
  have cD : He.SaysD fa fn K := cT.d
  have F_0 : ∃ f fd, FnP K "is_between" (top 18) f fd ∧ mg "is_between" = some (.ref f) := by
    obtain ⟨fd, F⟩ := cD.def_ 0 (d := dd_is_between) rfl
    exact ⟨_, fd, F, He.glo_ok KX G (cD.fact 0 (f := .glo "is_between") rfl)⟩
  have F_1 : ∃ f fd, FnP K "divisor" (top 19) f fd ∧ mg "divisor" = some (.ref f) := by
    obtain ⟨fd, F⟩ := cD.def_ 1 (d := dd_divisor) rfl
    exact ⟨_, fd, F, He.glo_ok KX G (cD.fact 1 (f := .glo "divisor") rfl)⟩
  have F_2 : ∃ f fd, FnP K "fraction" (top 20) f fd ∧ mg "fraction" = some (.ref f) := by
    obtain ⟨fd, F⟩ := cD.def_ 2 (d := dd_fraction) rfl
    exact ⟨_, fd, F, He.glo_ok KX G (cD.fact 2 (f := .glo "fraction") rfl)⟩
  have F_3 : ∃ f fd, FnP K "plus" (top 21) f fd ∧ mg "plus" = some (.ref f) := by
    obtain ⟨fd, F⟩ := cD.def_ 3 (d := dd_plus) rfl
    exact ⟨_, fd, F, He.glo_ok KX G (cD.fact 3 (f := .glo "plus") rfl)⟩
  have F_4 : ∃ f fd, FnP K "minus" (top 22) f fd ∧ mg "minus" = some (.ref f) := by
    obtain ⟨fd, F⟩ := cD.def_ 4 (d := dd_minus) rfl
    exact ⟨_, fd, F, He.glo_ok KX G (cD.fact 4 (f := .glo "minus") rfl)⟩
  have F_5 : ∃ f fd, FnP K "product" (top 23) f fd ∧ mg "product" = some (.ref f) := by
    obtain ⟨fd, F⟩ := cD.def_ 5 (d := dd_product) rfl
    exact ⟨_, fd, F, He.glo_ok KX G (cD.fact 5 (f := .glo "product") rfl)⟩
  have F_6 : ∃ f fd, FnP K "quotient" (top 24) f fd ∧ mg "quotient" = some (.ref f) := by
    obtain ⟨fd, F⟩ := cD.def_ 6 (d := dd_quotient) rfl
    exact ⟨_, fd, F, He.glo_ok KX G (cD.fact 6 (f := .glo "quotient") rfl)⟩
  have F_7 : ∃ f fd, FnP K "is_less" (top 25) f fd ∧ mg "is_less" = some (.ref f) := by
    obtain ⟨fd, F⟩ := cD.def_ 7 (d := dd_is_less) rfl
    exact ⟨_, fd, F, He.glo_ok KX G (cD.fact 7 (f := .glo "is_less") rfl)⟩
  have F_8 : ∃ f fd, FnP K "lesser" (top 26) f fd ∧ mg "lesser" = some (.ref f) := by
    obtain ⟨fd, F⟩ := cD.def_ 8 (d := dd_lesser) rfl
    exact ⟨_, fd, F, He.glo_ok KX G (cD.fact 8 (f := .glo "lesser") rfl)⟩
  have F_9 : ∃ f fd, FnP K "are_pairs" (top 27) f fd ∧ mg "are_pairs" = some (.ref f) := by
    obtain ⟨fd, F⟩ := cD.def_ 9 (d := dd_are_pairs) rfl
    exact ⟨_, fd, F, He.glo_ok KX G (cD.fact 9 (f := .glo "are_pairs") rfl)⟩
  have F_10 : ∃ f fd, FnP K "is_rung" (top 28) f fd ∧ mg "is_rung" = some (.ref f) := by
    obtain ⟨fd, F⟩ := cD.def_ 10 (d := dd_is_rung) rfl
    exact ⟨_, fd, F, He.glo_ok KX G (cD.fact 10 (f := .glo "is_rung") rfl)⟩
  have F_11 : ∃ f fd, FnP K "is_endless" (top 29) f fd ∧ mg "is_endless" = some (.ref f) := by
    obtain ⟨fd, F⟩ := cD.def_ 11 (d := dd_is_endless) rfl
    exact ⟨_, fd, F, He.glo_ok KX G (cD.fact 11 (f := .glo "is_endless") rfl)⟩
  have F_12 : ∃ f fd, FnP K "is_ladder" (top 30) f fd ∧ mg "is_ladder" = some (.ref f) := by
    obtain ⟨fd, F⟩ := cD.def_ 12 (d := dd_is_ladder) rfl
    exact ⟨_, fd, F, He.glo_ok KX G (cD.fact 12 (f := .glo "is_ladder") rfl)⟩
  have F_13 : ∃ f fd, FnP K "check_ladder" (top 31) f fd ∧ mg "check_ladder" = some (.ref f) := by
    obtain ⟨fd, F⟩ := cD.def_ 13 (d := dd_check_ladder) rfl
    exact ⟨_, fd, F, He.glo_ok KX G (cD.fact 13 (f := .glo "check_ladder") rfl)⟩
  have F_14 : ∃ f fd, FnP K "check_holder" (top 32) f fd ∧ mg "check_holder" = some (.ref f) := by
    obtain ⟨fd, F⟩ := cD.def_ 14 (d := dd_check_holder) rfl
    exact ⟨_, fd, F, He.glo_ok KX G (cD.fact 14 (f := .glo "check_holder") rfl)⟩
  have F_15 : ∃ f fd, FnP K "is_amount" (top 33) f fd ∧ mg "is_amount" = some (.ref f) := by
    obtain ⟨fd, F⟩ := cD.def_ 15 (d := dd_is_amount) rfl
    exact ⟨_, fd, F, He.glo_ok KX G (cD.fact 15 (f := .glo "is_amount") rfl)⟩
  have F_16 : ∃ f fd, FnP K "check_amount" (top 34) f fd ∧ mg "check_amount" = some (.ref f) := by
    obtain ⟨fd, F⟩ := cD.def_ 16 (d := dd_check_amount) rfl
    exact ⟨_, fd, F, He.glo_ok KX G (cD.fact 16 (f := .glo "check_amount") rfl)⟩
  have F_17 : ∃ f fd, FnP K "reached" (top 35) f fd ∧ mg "reached" = some (.ref f) := by
    obtain ⟨fd, F⟩ := cD.def_ 17 (d := dd_reached) rfl
    exact ⟨_, fd, F, He.glo_ok KX G (cD.fact 17 (f := .glo "reached") rfl)⟩
  have F_18 : ∃ f fd, FnP K "needed_for" (top 36) f fd ∧ mg "needed_for" = some (.ref f) := by
    obtain ⟨fd, F⟩ := cD.def_ 18 (d := dd_needed_for) rfl
    exact ⟨_, fd, F, He.glo_ok KX G (cD.fact 18 (f := .glo "needed_for") rfl)⟩
  have F_19 : ∃ f fd, FnP K "fixed_pieces" (top 38) f fd ∧ mg "fixed_pieces" = some (.ref f) := by
    obtain ⟨fd, F⟩ := cD.def_ 19 (d := dd_fixed_pieces) rfl
    exact ⟨_, fd, F, He.glo_ok KX G (cD.fact 19 (f := .glo "fixed_pieces") rfl)⟩
  have F_20 : ∃ f fd, FnP K "share_pieces" (top 39) f fd ∧ mg "share_pieces" = some (.ref f) := by
    obtain ⟨fd, F⟩ := cD.def_ 20 (d := dd_share_pieces) rfl
    exact ⟨_, fd, F, He.glo_ok KX G (cD.fact 20 (f := .glo "share_pieces") rfl)⟩
  have F_21 : ∃ f fd, FnP K "rung_pieces" (top 40) f fd ∧ mg "rung_pieces" = some (.ref f) := by
    obtain ⟨fd, F⟩ := cD.def_ 21 (d := dd_rung_pieces) rfl
    exact ⟨_, fd, F, He.glo_ok KX G (cD.fact 21 (f := .glo "rung_pieces") rfl)⟩
  have F_22 : ∃ f fd, FnP K "pieces_of" (top 41) f fd ∧ mg "pieces_of" = some (.ref f) := by
    obtain ⟨fd, F⟩ := cD.def_ 22 (d := dd_pieces_of) rfl
    exact ⟨_, fd, F, He.glo_ok KX G (cD.fact 22 (f := .glo "pieces_of") rfl)⟩
  have F_23 : ∃ f fd, FnP K "found_bends" (top 42) f fd ∧ mg "found_bends" = some (.ref f) := by
    obtain ⟨fd, F⟩ := cD.def_ 23 (d := dd_found_bends) rfl
    exact ⟨_, fd, F, He.glo_ok KX G (cD.fact 23 (f := .glo "found_bends") rfl)⟩
  have F_24 : ∃ f fd, FnP K "payment_at" (top 43) f fd ∧ mg "payment_at" = some (.ref f) := by
    obtain ⟨fd, F⟩ := cD.def_ 24 (d := dd_payment_at) rfl
    exact ⟨_, fd, F, He.glo_ok KX G (cD.fact 24 (f := .glo "payment_at") rfl)⟩
  have F_25 : ∃ f fd, FnP K "all_payments" (top 44) f fd ∧ mg "all_payments" = some (.ref f) := by
    obtain ⟨fd, F⟩ := cD.def_ 25 (d := dd_all_payments) rfl
    exact ⟨_, fd, F, He.glo_ok KX G (cD.fact 25 (f := .glo "all_payments") rfl)⟩
  have F_26 : ∃ f fd, FnP K "pay" (top 46) f fd ∧ mg "pay" = some (.ref f) := by
    obtain ⟨fd, F⟩ := cD.def_ 26 (d := dd_pay) rfl
    exact ⟨_, fd, F, He.glo_ok KX G (cD.fact 26 (f := .glo "pay") rfl)⟩
  have F_27 : ∃ f fd, FnP K "pay_rungs" (top 47) f fd ∧ mg "pay_rungs" = some (.ref f) := by
    obtain ⟨fd, F⟩ := cD.def_ 27 (d := dd_pay_rungs) rfl
    exact ⟨_, fd, F, He.glo_ok KX G (cD.fact 27 (f := .glo "pay_rungs") rfl)⟩
  have F_28 : ∃ f fd, FnP K "pay_next" (top 48) f fd ∧ mg "pay_next" = some (.ref f) := by
    obtain ⟨fd, F⟩ := cD.def_ 28 (d := dd_pay_next) rfl
    exact ⟨_, fd, F, He.glo_ok KX G (cD.fact 28 (f := .glo "pay_next") rfl)⟩
  have F_29 : ∃ f fd, FnP K "least_amount" (top 49) f fd ∧ mg "least_amount" = some (.ref f) := by
    obtain ⟨fd, F⟩ := cD.def_ 29 (d := dd_least_amount) rfl
    exact ⟨_, fd, F, He.glo_ok KX G (cD.fact 29 (f := .glo "least_amount") rfl)⟩
  have F_30 : ∃ f fd, FnP K "bends" (top 51) f fd ∧ mg "bends" = some (.ref f) := by
    obtain ⟨fd, F⟩ := cD.def_ 30 (d := dd_bends) rfl
    exact ⟨_, fd, F, He.glo_ok KX G (cD.fact 30 (f := .glo "bends") rfl)⟩
  have F_31 : ∃ f fd, FnP K "rate_after" (top 52) f fd ∧ mg "rate_after" = some (.ref f) := by
    obtain ⟨fd, F⟩ := cD.def_ 31 (d := dd_rate_after) rfl
    exact ⟨_, fd, F, He.glo_ok KX G (cD.fact 31 (f := .glo "rate_after") rfl)⟩
  have F_32 : ∃ f fd, FnP K "check_both" (top 54) f fd ∧ mg "check_both" = some (.ref f) := by
    obtain ⟨fd, F⟩ := cD.def_ 32 (d := dd_check_both) rfl
    exact ⟨_, fd, F, He.glo_ok KX G (cD.fact 32 (f := .glo "check_both") rfl)⟩
  have F_33 : ∃ f fd, FnP K "check_like" (top 55) f fd ∧ mg "check_like" = some (.ref f) := by
    obtain ⟨fd, F⟩ := cD.def_ 33 (d := dd_check_like) rfl
    exact ⟨_, fd, F, He.glo_ok KX G (cD.fact 33 (f := .glo "check_like") rfl)⟩
  have F_34 : ∃ f fd, FnP K "rate_at" (top 56) f fd ∧ mg "rate_at" = some (.ref f) := by
    obtain ⟨fd, F⟩ := cD.def_ 34 (d := dd_rate_at) rfl
    exact ⟨_, fd, F, He.glo_ok KX G (cD.fact 34 (f := .glo "rate_at") rfl)⟩
  have F_35 : ∃ f fd, FnP K "in_order" (top 57) f fd ∧ mg "in_order" = some (.ref f) := by
    obtain ⟨fd, F⟩ := cD.def_ 35 (d := dd_in_order) rfl
    exact ⟨_, fd, F, He.glo_ok KX G (cD.fact 35 (f := .glo "in_order") rfl)⟩
  have F_36 : ∃ f fd, FnP K "sign_of" (top 58) f fd ∧ mg "sign_of" = some (.ref f) := by
    obtain ⟨fd, F⟩ := cD.def_ 36 (d := dd_sign_of) rfl
    exact ⟨_, fd, F, He.glo_ok KX G (cD.fact 36 (f := .glo "sign_of") rfl)⟩
  have F_37 : ∃ f fd, FnP K "found_signs" (top 59) f fd ∧ mg "found_signs" = some (.ref f) := by
    obtain ⟨fd, F⟩ := cD.def_ 37 (d := dd_found_signs) rfl
    exact ⟨_, fd, F, He.glo_ok KX G (cD.fact 37 (f := .glo "found_signs") rfl)⟩
  have F_38 : ∃ f fd, FnP K "first_parting" (top 60) f fd ∧ mg "first_parting" = some (.ref f) := by
    obtain ⟨fd, F⟩ := cD.def_ 38 (d := dd_first_parting) rfl
    exact ⟨_, fd, F, He.glo_ok KX G (cD.fact 38 (f := .glo "first_parting") rfl)⟩
  have F_39 : ∃ f fd, FnP K "are_alike" (top 61) f fd ∧ mg "are_alike" = some (.ref f) := by
    obtain ⟨fd, F⟩ := cD.def_ 39 (d := dd_are_alike) rfl
    exact ⟨_, fd, F, He.glo_ok KX G (cD.fact 39 (f := .glo "are_alike") rfl)⟩
  have F_40 : ∃ f fd, FnP K "parting_after" (top 62) f fd ∧ mg "parting_after" = some (.ref f) := by
    obtain ⟨fd, F⟩ := cD.def_ 40 (d := dd_parting_after) rfl
    exact ⟨_, fd, F, He.glo_ok KX G (cD.fact 40 (f := .glo "parting_after") rfl)⟩
  have F_41 : ∃ f fd, FnP K "gains" (top 63) f fd ∧ mg "gains" = some (.ref f) := by
    obtain ⟨fd, F⟩ := cD.def_ 41 (d := dd_gains) rfl
    exact ⟨_, fd, F, He.glo_ok KX G (cD.fact 41 (f := .glo "gains") rfl)⟩
  have F_42 : ∃ f fd, FnP K "extreme" (top 65) f fd ∧ mg "extreme" = some (.ref f) := by
    obtain ⟨fd, F⟩ := cD.def_ 42 (d := dd_extreme) rfl
    exact ⟨_, fd, F, He.glo_ok KX G (cD.fact 42 (f := .glo "extreme") rfl)⟩
  have F_43 : ∃ fd, FnP K "greatest_part" (top 66) (He.fAd K ("greatest_part", none)) fd ∧ mg "greatest_part" = some (.ref (He.fAd K ("greatest_part", none))) := by
    obtain ⟨fd, F⟩ := cD.def_ 43 (d := dd_greatest_part) rfl
    exact ⟨fd, F, He.glo_ok KX G (cD.fact 43 (f := .glo "greatest_part") rfl)⟩
  have F_44 : ∃ fd, FnP K "least_part" (top 67) (He.fAd K ("least_part", none)) fd ∧ mg "least_part" = some (.ref (He.fAd K ("least_part", none))) := by
    obtain ⟨fd, F⟩ := cD.def_ 44 (d := dd_least_part) rfl
    exact ⟨fd, F, He.glo_ok KX G (cD.fact 44 (f := .glo "least_part") rfl)⟩
  have F_45 : ∃ f fd, FnP K "check_simple" (top 69) f fd ∧ mg "check_simple" = some (.ref f) := by
    obtain ⟨fd, F⟩ := cD.def_ 45 (d := dd_check_simple) rfl
    exact ⟨_, fd, F, He.glo_ok KX G (cD.fact 45 (f := .glo "check_simple") rfl)⟩
  have F_46 : ∃ f fd, FnP K "check_options" (top 70) f fd ∧ mg "check_options" = some (.ref f) := by
    obtain ⟨fd, F⟩ := cD.def_ 46 (d := dd_check_options) rfl
    exact ⟨_, fd, F, He.glo_ok KX G (cD.fact 46 (f := .glo "check_options") rfl)⟩
  have F_47 : ∃ f fd, FnP K "check_choice" (top 71) f fd ∧ mg "check_choice" = some (.ref f) := by
    obtain ⟨fd, F⟩ := cD.def_ 47 (d := dd_check_choice) rfl
    exact ⟨_, fd, F, He.glo_ok KX G (cD.fact 47 (f := .glo "check_choice") rfl)⟩
  have F_48 : ∃ f fd, FnP K "with_choice" (top 72) f fd ∧ mg "with_choice" = some (.ref f) := by
    obtain ⟨fd, F⟩ := cD.def_ 48 (d := dd_with_choice) rfl
    exact ⟨_, fd, F, He.glo_ok KX G (cD.fact 48 (f := .glo "with_choice") rfl)⟩
  have F_49 : ∃ f fd, FnP K "changed" (top 73) f fd ∧ mg "changed" = some (.ref f) := by
    obtain ⟨fd, F⟩ := cD.def_ 49 (d := dd_changed) rfl
    exact ⟨_, fd, F, He.glo_ok KX G (cD.fact 49 (f := .glo "changed") rfl)⟩
  have F_50 : ∃ f fd, FnP K "choices_of" (top 74) f fd ∧ mg "choices_of" = some (.ref f) := by
    obtain ⟨fd, F⟩ := cD.def_ 50 (d := dd_choices_of) rfl
    exact ⟨_, fd, F, He.glo_ok KX G (cD.fact 50 (f := .glo "choices_of") rfl)⟩
  have F_51 : ∃ f fd, FnP K "is_stable" (top 75) f fd ∧ mg "is_stable" = some (.ref f) := by
    obtain ⟨fd, F⟩ := cD.def_ 51 (d := dd_is_stable) rfl
    exact ⟨_, fd, F, He.glo_ok KX G (cD.fact 51 (f := .glo "is_stable") rfl)⟩
  have F_52 : ∃ f fd, FnP K "payments_with" (top 76) f fd ∧ mg "payments_with" = some (.ref f) := by
    obtain ⟨fd, F⟩ := cD.def_ 52 (d := dd_payments_with) rfl
    exact ⟨_, fd, F, He.glo_ok KX G (cD.fact 52 (f := .glo "payments_with") rfl)⟩
  have F_53 : ∃ f fd, FnP K "is_settled" (top 77) f fd ∧ mg "is_settled" = some (.ref f) := by
    obtain ⟨fd, F⟩ := cD.def_ 53 (d := dd_is_settled) rfl
    exact ⟨_, fd, F, He.glo_ok KX G (cD.fact 53 (f := .glo "is_settled") rfl)⟩
  have F_54 : ∃ f fd, FnP K "settled" (top 78) f fd ∧ mg "settled" = some (.ref f) := by
    obtain ⟨fd, F⟩ := cD.def_ 54 (d := dd_settled) rfl
    exact ⟨_, fd, F, He.glo_ok KX G (cD.fact 54 (f := .glo "settled") rfl)⟩
  have F_55 : ∃ f fd, FnP K "joined_pairs" (top 80) f fd ∧ mg "joined_pairs" = some (.ref f) := by
    obtain ⟨fd, F⟩ := cD.def_ 55 (d := dd_joined_pairs) rfl
    exact ⟨_, fd, F, He.glo_ok KX G (cD.fact 55 (f := .glo "joined_pairs") rfl)⟩
  have F_56 : ∃ f fd, FnP K "check_fit" (top 81) f fd ∧ mg "check_fit" = some (.ref f) := by
    obtain ⟨fd, F⟩ := cD.def_ 56 (d := dd_check_fit) rfl
    exact ⟨_, fd, F, He.glo_ok KX G (cD.fact 56 (f := .glo "check_fit") rfl)⟩
  have F_57 : ∃ f fd, FnP K "joined" (top 82) f fd ∧ mg "joined" = some (.ref f) := by
    obtain ⟨fd, F⟩ := cD.def_ 57 (d := dd_joined) rfl
    exact ⟨_, fd, F, He.glo_ok KX G (cD.fact 57 (f := .glo "joined") rfl)⟩
  have F_58 : ∃ f fd, FnP K "_law_town" (top 84) f fd ∧ mg "_law_town" = some (.ref f) := by
    obtain ⟨fd, F⟩ := cD.def_ 58 (d := dd__law_town) rfl
    exact ⟨_, fd, F, He.glo_ok KX G (cD.fact 58 (f := .glo "_law_town") rfl)⟩
  have F_59 : ∃ f fd, FnP K "_law_draw" (top 85) f fd ∧ mg "_law_draw" = some (.ref f) := by
    obtain ⟨fd, F⟩ := cD.def_ 59 (d := dd__law_draw) rfl
    exact ⟨_, fd, F, He.glo_ok KX G (cD.fact 59 (f := .glo "_law_draw") rfl)⟩
  have F_60 : ∃ f fd, FnP K "_law_pick" (top 86) f fd ∧ mg "_law_pick" = some (.ref f) := by
    obtain ⟨fd, F⟩ := cD.def_ 60 (d := dd__law_pick) rfl
    exact ⟨_, fd, F, He.glo_ok KX G (cD.fact 60 (f := .glo "_law_pick") rfl)⟩
  have F_61 : ∃ f fd, FnP K "_law_outcome" (top 87) f fd ∧ mg "_law_outcome" = some (.ref f) := by
    obtain ⟨fd, F⟩ := cD.def_ 61 (d := dd__law_outcome) rfl
    exact ⟨_, fd, F, He.glo_ok KX G (cD.fact 61 (f := .glo "_law_outcome") rfl)⟩
  have F_62 : ∃ f fd, FnP K "_law_name" (top 88) f fd ∧ mg "_law_name" = some (.ref f) := by
    obtain ⟨fd, F⟩ := cD.def_ 62 (d := dd__law_name) rfl
    exact ⟨_, fd, F, He.glo_ok KX G (cD.fact 62 (f := .glo "_law_name") rfl)⟩
  have F_63 : ∃ f fd, FnP K "_law_raises" (top 89) f fd ∧ mg "_law_raises" = some (.ref f) := by
    obtain ⟨fd, F⟩ := cD.def_ 63 (d := dd__law_raises) rfl
    exact ⟨_, fd, F, He.glo_ok KX G (cD.fact 63 (f := .glo "_law_raises") rfl)⟩
  have F_64 : ∃ f fd, FnP K "_law_pairs" (top 90) f fd ∧ mg "_law_pairs" = some (.ref f) := by
    obtain ⟨fd, F⟩ := cD.def_ 64 (d := dd__law_pairs) rfl
    exact ⟨_, fd, F, He.glo_ok KX G (cD.fact 64 (f := .glo "_law_pairs") rfl)⟩
  have F_65 : ∃ f fd, FnP K "_law_rung" (top 91) f fd ∧ mg "_law_rung" = some (.ref f) := by
    obtain ⟨fd, F⟩ := cD.def_ 65 (d := dd__law_rung) rfl
    exact ⟨_, fd, F, He.glo_ok KX G (cD.fact 65 (f := .glo "_law_rung") rfl)⟩
  have F_66 : ∃ f fd, FnP K "_law_ladder" (top 92) f fd ∧ mg "_law_ladder" = some (.ref f) := by
    obtain ⟨fd, F⟩ := cD.def_ 66 (d := dd__law_ladder) rfl
    exact ⟨_, fd, F, He.glo_ok KX G (cD.fact 66 (f := .glo "_law_ladder") rfl)⟩
  have F_67 : ∃ f fd, FnP K "_law_call" (top 93) f fd ∧ mg "_law_call" = some (.ref f) := by
    obtain ⟨fd, F⟩ := cD.def_ 67 (d := dd__law_call) rfl
    exact ⟨_, fd, F, He.glo_ok KX G (cD.fact 67 (f := .glo "_law_call") rfl)⟩
  have F_68 : ∃ f fd, FnP K "_law_bads" (top 94) f fd ∧ mg "_law_bads" = some (.ref f) := by
    obtain ⟨fd, F⟩ := cD.def_ 68 (d := dd__law_bads) rfl
    exact ⟨_, fd, F, He.glo_ok KX G (cD.fact 68 (f := .glo "_law_bads") rfl)⟩
  have F_69 : ∃ f fd, FnP K "_law_wrongs" (top 95) f fd ∧ mg "_law_wrongs" = some (.ref f) := by
    obtain ⟨fd, F⟩ := cD.def_ 69 (d := dd__law_wrongs) rfl
    exact ⟨_, fd, F, He.glo_ok KX G (cD.fact 69 (f := .glo "_law_wrongs") rfl)⟩
  have F_70 : ∃ f fd, FnP K "law" (top 96) f fd ∧ mg "law" = some (.ref f) := by
    obtain ⟨fd, F⟩ := cD.def_ 70 (d := dd_law) rfl
    exact ⟨_, fd, F, He.glo_ok KX G (cD.fact 70 (f := .glo "law") rfl)⟩
  have g : Glob K mg := ⟨He.free_ok KX G (cD.fact 71 (f := .free "len") rfl), He.free_ok KX G (cD.fact 72 (f := .free "sum") rfl), He.free_ok KX G (cD.fact 73 (f := .free "all") rfl), He.free_ok KX G (cD.fact 74 (f := .free "any") rfl), He.free_ok KX G (cD.fact 75 (f := .free "tuple") rfl), He.free_ok KX G (cD.fact 76 (f := .free "list") rfl), He.free_ok KX G (cD.fact 77 (f := .free "abs") rfl), He.free_ok KX G (cD.fact 78 (f := .free "int") rfl), He.free_ok KX G (cD.fact 79 (f := .free "str") rfl), He.free_ok KX G (cD.fact 80 (f := .free "bool") rfl), He.free_ok KX G (cD.fact 81 (f := .free "max") rfl), He.free_ok KX G (cD.fact 82 (f := .free "min") rfl), He.free_ok KX G (cD.fact 83 (f := .free "dict") rfl), He.free_ok KX G (cD.fact 84 (f := .free "range") rfl), He.free_ok KX G (cD.fact 85 (f := .free "enumerate") rfl), He.free_ok KX G (cD.fact 86 (f := .free "zip") rfl), He.free_ok KX G (cD.fact 87 (f := .free "sorted") rfl), He.free_ok KX G (cD.fact 88 (f := .free "isinstance") rfl)⟩
  have gMOST : HasMost mg := He.int_ok KX G (cD.fact 89 (f := .int "MOST" 1000000) rfl)
  have gZERO : HasZero K mg := ⟨_, He.glo_ok KX G (cD.fact 90 (f := .glo "ZERO") rfl), exZ_ok (exZE_z (exL2_ex c.more))⟩
  have EF : ExF K mg := by
    refine exE_ok (exZE_e (exL2_ex c.more)) (fun c hc => ?_) (He.glo_ok KX G (cD.fact 104 (f := .glo "LadderError") rfl))
    simp only [excN, List.mem_cons, List.mem_nil_iff, or_false] at hc
    rcases hc with rfl | rfl | rfl | rfl | rfl | rfl | rfl | rfl | rfl | rfl | rfl | rfl | rfl
    · exact He.glo_ok KX G (cD.fact 91 (f := .glo "InvalidLadder") rfl)
    · exact He.glo_ok KX G (cD.fact 92 (f := .glo "InvalidHolder") rfl)
    · exact He.glo_ok KX G (cD.fact 93 (f := .glo "InvalidAmount") rfl)
    · exact He.glo_ok KX G (cD.fact 94 (f := .glo "InvalidNumber") rfl)
    · exact He.glo_ok KX G (cD.fact 95 (f := .glo "InvalidGoal") rfl)
    · exact He.glo_ok KX G (cD.fact 96 (f := .glo "InvalidOptions") rfl)
    · exact He.glo_ok KX G (cD.fact 97 (f := .glo "InvalidChoice") rfl)
    · exact He.glo_ok KX G (cD.fact 98 (f := .glo "InvalidText") rfl)
    · exact He.glo_ok KX G (cD.fact 99 (f := .glo "Unlike") rfl)
    · exact He.glo_ok KX G (cD.fact 100 (f := .glo "NotSimple") rfl)
    · exact He.glo_ok KX G (cD.fact 101 (f := .glo "TooMany") rfl)
    · exact He.glo_ok KX G (cD.fact 102 (f := .glo "TooMuch") rfl)
    · exact He.glo_ok KX G (cD.fact 103 (f := .glo "NothingToUndo") rfl)
  have gVE : mg "ValueError" = none := He.free_ok KX G (cD.fact 105 (f := .free "ValueError") rfl)
  obtain ⟨fl, fdl, Fl, hml⟩ := F_70
  have e := hfa.symm.trans hml
  cases e
  have b := FunD.bindsA (ps := ["script"]) Fl fun _ _ _ _ _ _ us hl => match us, hl with | [_], _ => rfl
  refine ⟨fdl, fun s v => b s [v] rfl, fun base _ _ TBs => ?_⟩
  have TB_greatest_part := TBs (He.cT K ("greatest_part", none)) (List.mem_map.mpr ⟨("greatest_part", none), by decide, rfl⟩)
  have tA_greatest_part := (exL2_tabs c.more).1
  have TB_least_part := TBs (He.cT K ("least_part", none)) (List.mem_map.mpr ⟨("least_part", none), by decide, rfl⟩)
  have tA_least_part := (exL2_tabs c.more).2
  have c_is_between := cal_is_between (P := P) (w := w) (base := base) g F_0 
  have c_divisor := cal_divisor (P := P) (w := w) (base := base) g F_1 
  have c_is_less := cal_is_less (P := P) (w := w) (base := base) g F_7 
  have c_is_endless := cal_is_endless (P := P) (w := w) (base := base) g F_11 
  have c_check_like := cal_check_like (P := P) (w := w) (base := base) g F_33 
  have c_sign_of := cal_sign_of (P := P) (w := w) (base := base) g F_36 
  have c_with_choice := cal_with_choice (P := P) (w := w) (base := base) g F_48 
  have c_choices_of := cal_choices_of (P := P) (w := w) (base := base) g F_50 
  have c_joined_pairs := cal_joined_pairs (P := P) (w := w) (base := base) g F_55 
  have c_check_fit := cal_check_fit (P := P) (w := w) (base := base) g F_56 
  have c__law_town := cal__law_town (P := P) (w := w) (base := base) g F_58 
  have c__law_draw := cal__law_draw (P := P) (w := w) (base := base) g F_59 
  have c__law_name := cal__law_name (P := P) (w := w) (base := base) g F_62 EF gVE
  have c__law_raises := cal__law_raises (P := P) (w := w) (base := base) g F_63 
  have c__law_bads := cal__law_bads (P := P) (w := w) (base := base) g F_68 
  have c__law_wrongs := cal__law_wrongs (P := P) (w := w) (base := base) g F_69 
  have c_X_check_like := cal_X_check_like (P := P) (w := w) (base := base) g F_33 EF
  have c_X_with_choice := cal_X_with_choice (P := P) (w := w) (base := base) g F_48 EF
  have c_X_joined_pairs := cal_X_joined_pairs (P := P) (w := w) (base := base) g F_55 EF
  have c_X_check_fit := cal_X_check_fit (P := P) (w := w) (base := base) g F_56 EF
  have c_fraction := cal_fraction (P := P) (w := w) (base := base) g F_2 c_divisor
  have c_lesser := cal_lesser (P := P) (w := w) (base := base) g F_8 c_is_less
  have c_are_pairs := cal_are_pairs (P := P) (w := w) (base := base) g F_9 c_is_between
  have c_check_holder := cal_check_holder (P := P) (w := w) (base := base) g F_14 c_is_between
  have c_is_amount := cal_is_amount (P := P) (w := w) (base := base) g F_15 gMOST c_is_between c_divisor
  have c_rate_at := cal_rate_at (P := P) (w := w) (base := base) g F_34 c_is_less
  have c_in_order := cal_in_order (P := P) (w := w) (base := base) g F_35 c_is_less
  have c_check_choice := cal_check_choice (P := P) (w := w) (base := base) g F_47 c_is_between
  have c_is_stable := cal_is_stable (P := P) (w := w) (base := base) g F_51 c_is_less
  have c__law_pick := cal__law_pick (P := P) (w := w) (base := base) g F_60 c__law_draw
  have c_X_check_holder := cal_X_check_holder (P := P) (w := w) (base := base) g F_14 EF c_is_between
  have c_X_check_choice := cal_X_check_choice (P := P) (w := w) (base := base) g F_47 EF c_is_between
  have c_plus := cal_plus (P := P) (w := w) (base := base) g F_3 c_fraction
  have c_product := cal_product (P := P) (w := w) (base := base) g F_5 c_fraction
  have c_quotient := cal_quotient (P := P) (w := w) (base := base) g F_6 c_fraction
  have c_is_rung := cal_is_rung (P := P) (w := w) (base := base) g F_10 c_are_pairs
  have c_check_amount := cal_check_amount (P := P) (w := w) (base := base) g F_16 c_is_amount
  have c_fixed_pieces := cal_fixed_pieces (P := P) (w := w) (base := base) g F_19 gZERO c_fraction
  have c_check_options := cal_check_options (P := P) (w := w) (base := base) g F_46 c_are_pairs
  have c__law_pairs := cal__law_pairs (P := P) (w := w) (base := base) g F_64 c__law_draw c__law_pick
  have c_X_check_amount := cal_X_check_amount (P := P) (w := w) (base := base) g F_16 EF c_is_amount
  have c_X_check_options := cal_X_check_options (P := P) (w := w) (base := base) g F_46 EF c_are_pairs
  have c_minus := cal_minus (P := P) (w := w) (base := base) g F_4 c_plus
  have c_is_ladder := cal_is_ladder (P := P) (w := w) (base := base) g F_12 c_is_endless c_is_between c_is_rung
  have c__law_rung := cal__law_rung (P := P) (w := w) (base := base) g F_65 c__law_pairs c__law_pick c__law_draw
  have c_check_ladder := cal_check_ladder (P := P) (w := w) (base := base) g F_13 c_is_ladder
  have c_share_pieces := cal_share_pieces (P := P) (w := w) (base := base) g F_20 gZERO c_fraction c_quotient c_lesser c_minus c_product
  have c_payment_at := cal_payment_at (P := P) (w := w) (base := base) g F_24 c_plus c_product c_minus c_is_less
  have c__law_ladder := cal__law_ladder (P := P) (w := w) (base := base) g F_66 c__law_draw c__law_rung
  have c_X_check_ladder := cal_X_check_ladder (P := P) (w := w) (base := base) g F_13 EF c_is_ladder
  have c_reached := cal_reached (P := P) (w := w) (base := base) g F_17 c_check_ladder c_is_endless
  have c_needed_for := cal_needed_for (P := P) (w := w) (base := base) g F_18 c_check_ladder c_is_between c_is_endless
  have c_rung_pieces := cal_rung_pieces (P := P) (w := w) (base := base) g F_21 c_share_pieces c_fixed_pieces
  have c_check_both := cal_check_both (P := P) (w := w) (base := base) g F_32 c_check_ladder
  have c_check_simple := cal_check_simple (P := P) (w := w) (base := base) g F_45 c_check_ladder
  have c_joined := cal_joined (P := P) (w := w) (base := base) g F_57 c_check_ladder c_check_holder c_check_fit c_joined_pairs
  have c_X_reached := cal_X_reached (P := P) (w := w) (base := base) g F_17 c_X_check_ladder c_is_endless
  have c_X_needed_for := cal_X_needed_for (P := P) (w := w) (base := base) g F_18 EF c_X_check_ladder c_is_between c_is_endless
  have c_X_check_both := cal_X_check_both (P := P) (w := w) (base := base) g F_32 c_X_check_ladder
  have c_X_check_simple := cal_X_check_simple (P := P) (w := w) (base := base) g F_45 EF c_X_check_ladder
  have c_X_joined := cal_X_joined (P := P) (w := w) (base := base) g F_57 EF c_X_check_ladder c_X_check_holder c_X_check_fit c_X_joined_pairs
  have c_pieces_of := cal_pieces_of (P := P) (w := w) (base := base) g F_22 c_is_endless c_rung_pieces
  have c_changed := cal_changed (P := P) (w := w) (base := base) g F_49 c_check_simple c_check_options c_check_choice c_with_choice
  have c_X_changed := cal_X_changed (P := P) (w := w) (base := base) g F_49 c_X_check_simple c_X_check_options c_X_check_choice c_X_with_choice
  have c_found_bends := cal_found_bends (P := P) (w := w) (base := base) g F_23 gZERO c_pieces_of c_plus c_product
  have c_pay_rungs := cal_pay_rungs (P := P) (w := w) (base := base) g F_27 gZERO c_check_ladder c_check_amount c_pieces_of c_minus c_lesser c_plus c_product
  have c_X_pay_rungs := cal_X_pay_rungs (P := P) (w := w) (base := base) g F_27 gZERO c_X_check_ladder c_X_check_amount c_pieces_of c_minus c_lesser c_plus c_product
  have c_all_payments := cal_all_payments (P := P) (w := w) (base := base) g F_25 c_payment_at c_found_bends
  have c_least_amount := cal_least_amount (P := P) (w := w) (base := base) g F_29 gZERO c_check_ladder c_check_holder c_found_bends c_is_amount c_is_less c_plus c_quotient c_minus
  have c_bends := cal_bends (P := P) (w := w) (base := base) g F_30 c_check_ladder c_check_holder c_found_bends
  have c_rate_after := cal_rate_after (P := P) (w := w) (base := base) g F_31 c_check_ladder c_check_holder c_check_amount c_found_bends c_is_less
  have c_found_signs := cal_found_signs (P := P) (w := w) (base := base) g F_37 gZERO c_in_order c_found_bends c_minus c_payment_at c_rate_at c_plus c_sign_of c_quotient c_is_less
  have c_extreme := cal_extreme (P := P) (w := w) (base := base) g F_42 c_check_ladder c_check_holder c_check_amount c_found_bends c_in_order c_quotient c_payment_at c_is_less
  have c_X_least_amount := cal_X_least_amount (P := P) (w := w) (base := base) g F_29 gZERO EF c_X_check_ladder c_X_check_holder c_found_bends c_is_amount c_is_less c_plus c_quotient c_minus
  have c_X_bends := cal_X_bends (P := P) (w := w) (base := base) g F_30 c_X_check_ladder c_X_check_holder c_found_bends
  have c_X_rate_after := cal_X_rate_after (P := P) (w := w) (base := base) g F_31 c_X_check_ladder c_X_check_holder c_X_check_amount c_found_bends c_is_less
  have c_X_extreme := cal_X_extreme (P := P) (w := w) (base := base) g F_42 EF c_X_check_ladder c_X_check_holder c_X_check_amount c_found_bends c_in_order c_quotient c_payment_at c_is_less
  have c_pay := cal_pay (P := P) (w := w) (base := base) g F_26 c_check_ladder c_check_amount c_all_payments
  have c_pay_next := cal_pay_next (P := P) (w := w) (base := base) g F_28 c_check_ladder c_check_amount c_all_payments c_plus c_minus
  have c_first_parting := cal_first_parting (P := P) (w := w) (base := base) g F_38 c_in_order c_found_signs
  have c_gains := cal_gains (P := P) (w := w) (base := base) g F_41 c_check_both c_check_holder c_check_like c_found_signs
  have c_greatest_part := cal_greatest_part (P := P) (w := w) (base := base) g F_43 TB_greatest_part tA_greatest_part c_extreme c_is_less
  have c_least_part := cal_least_part (P := P) (w := w) (base := base) g F_44 TB_least_part tA_least_part c_extreme c_is_less
  have c_payments_with := cal_payments_with (P := P) (w := w) (base := base) g F_52 c_choices_of c_all_payments c_with_choice
  have c_X_pay := cal_X_pay (P := P) (w := w) (base := base) g F_26 c_X_check_ladder c_X_check_amount c_all_payments
  have c_X_pay_next := cal_X_pay_next (P := P) (w := w) (base := base) g F_28 c_X_check_ladder c_X_check_amount c_all_payments c_plus c_minus
  have c_X_gains := cal_X_gains (P := P) (w := w) (base := base) g F_41 c_X_check_both c_X_check_holder c_X_check_like c_found_signs
  have c_X_greatest_part := cal_X_greatest_part (P := P) (w := w) (base := base) g F_43 TB_greatest_part tA_greatest_part c_is_less c_X_extreme c_is_less
  have c_X_least_part := cal_X_least_part (P := P) (w := w) (base := base) g F_44 TB_least_part tA_least_part c_is_less c_X_extreme c_is_less
  have c_X_payments_with := cal_X_payments_with (P := P) (w := w) (base := base) g F_52 c_choices_of c_all_payments c_X_with_choice
  have c_are_alike := cal_are_alike (P := P) (w := w) (base := base) g F_39 c_check_both c_check_like c_first_parting
  have c_parting_after := cal_parting_after (P := P) (w := w) (base := base) g F_40 c_check_both c_check_like c_first_parting
  have c_is_settled := cal_is_settled (P := P) (w := w) (base := base) g F_53 c_check_simple c_check_options c_check_amount c_check_choice c_is_stable c_payments_with
  have c_settled := cal_settled (P := P) (w := w) (base := base) g F_54 c_check_simple c_check_options c_check_amount c_payments_with c_choices_of c_is_stable
  have c_X_are_alike := cal_X_are_alike (P := P) (w := w) (base := base) g F_39 c_X_check_both c_X_check_like c_first_parting
  have c_X_parting_after := cal_X_parting_after (P := P) (w := w) (base := base) g F_40 c_X_check_both c_X_check_like c_first_parting
  have c_X_is_settled := cal_X_is_settled (P := P) (w := w) (base := base) g F_53 c_X_check_simple c_X_check_options c_X_check_amount c_X_check_choice c_is_stable c_X_payments_with
  have c_X_settled := cal_X_settled (P := P) (w := w) (base := base) g F_54 c_X_check_simple c_X_check_options c_X_check_amount c_X_payments_with c_choices_of c_is_stable
  have c__law_call := cal__law_call (P := P) (w := w) (base := base) g F_67 c_X_is_settled c_X_reached c_X_pay_next c_X_least_amount c_X_rate_after c_X_greatest_part c_X_least_part c_X_gains c_X_joined c_X_needed_for c_X_pay c_X_pay_rungs c_X_bends c_X_are_alike c_X_parting_after c_X_changed c_X_settled
  have c__law_outcome := cal__law_outcome (P := P) (w := w) (base := base) g F_61 EF c__law_call c__law_name
  exact ok_law (P := P) (w := w) (base := base) g Fl c__law_town c__law_ladder c__law_pick c__law_bads c__law_outcome c__law_raises c__law_wrongs c_is_amount c_pay c_is_ladder
end Sx
open PySem PySem.W PySem.Calls PyProof.Rows
theorem PySem.Challenge.cw_payladders_k01_argument_ends_holds : PySem.Challenge.rw_payladders_k01_argument_ends.Holds := by
  w_on; o_law
  refine HandSHeadRun.head_any (r := OpenLaw.row PySem.Challenge.rw_payladders_k01_argument_ends) (q := view (OpenLaw.row PySem.Challenge.rw_payladders_k01_argument_ends).prog [96]) (H := Sx.hk) (ob := Sx.ob) (M := 8000) (loose := Sx.loose) (d := HandSHeadRun.topDef (OpenLaw.row PySem.Challenge.rw_payladders_k01_argument_ends).prog 96) (kwd := []) Sx.ob_eq
    (by kernel_rfl) (fun s => by kernel_rfl) Sx.run (by kernel_rfl) (by kernel_rfl) (by kernel_rfl) (by rfl) (by first | assumption | decide +kernel) (by decide +kernel) ⟨rfl, rfl, rfl, rfl, rfl, by decide +kernel⟩ ?hw ?hc
  case hw => w_witness2
  case hc =>
    refine LamX.walk_ofTsE (l := PySem.Challenge.rw_payladders_k01_argument_ends) (n := 63) (k := 14) (x := "script") (CX := fun _ => L2.CX0) rfl (by decide) (by kernel_rfl) ⟨rfl, by decide, by decide⟩ ?F (fun _ _ _ _ _ z => z)
    intro w mg fa h Y G hmg0
    obtain ⟨K, KX, c⟩ := Y
    have hmg : mg ("law" : PySem.Str) = some (.ref fa) := by
      have e : (HandSHeadRun.topDef (OpenLaw.row PySem.Challenge.rw_payladders_k01_argument_ends).prog 96).name = ("law" : PySem.Str) := by kernel_rfl
      rw [← e]
      exact hmg0
    obtain ⟨fd, hb, hF⟩ := Sx.facts (P := (PySem.Challenge.rw_payladders_k01_argument_ends).prog) (w := w) KX G hmg c
    refine ⟨K, KX, fd, Sx.lamNames.map (He.cT K), _, fun p hp => ?_, fun p hp => ?_, fun p hp => ?_, hb, fun H a ns hl _ hT hS => Sx.law_endL (Sx.law_true ns hl) (fun p hp => ?_) hT hS, hF⟩
    · obtain ⟨d, hd, rfl⟩ := List.mem_map.mp hp
      exact c.empty d hd
    · obtain ⟨d, hd, rfl⟩ := List.mem_map.mp hp
      exact c.out d hd
    · obtain ⟨d, hd, rfl⟩ := List.mem_map.mp hp
      exact PySem.W.codeHd_of_K KX (c.hd d hd)
    · obtain ⟨d, hd, e⟩ := Sx.exL2_of c.more p hp
      exact ⟨_, List.mem_map.mpr ⟨d, hd, rfl⟩, e⟩
