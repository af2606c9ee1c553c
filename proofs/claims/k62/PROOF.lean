import PyProof.Rows.All
import Wide.All
import OpenK.AllK
import Wide.FinOn
import HandS.ForMost
import HandS.ForExc
import HandS.Wide
import HandS.Walk
import HandS.Zip
import HandS.TupAny
import HandS.TupMul
import HandS.IsInst
import HandS.Deep
import HandS.Style
import HandS.Lambda
import HandS.HeadHook4
import HandS.Exc
import KE.GoesEnum
import HandS.Dict
import HandS.Iter
import HandS.Head0
import HandS.Head1
import HandS.Head2
import HandS.HeadEnd
import HandS.HeadHook1
import HandS.HeadHook2
import HandS.HeadHook3
import HandS.SortInts
import HandS.TupSets
import HandS.Nested
import HandS.HeadWalk
import KE.SortData
import HandS.More
import KE.KDictPairs
import PyProof.EqKinds
import PyProof.SeqIndex
import HandS.ExcOwn
import HandS.ExcIs
import HandS.WordsExc
import PyProof.ExcBaseAll.ValueError
import HandS.ExcValue
import HandS.CallLocal
import HandS.FStr
import PyProof.ListStr
import KE.KCallOwn
import OpenK.KOps
import PyProof.InstNe
import HandS.TryOnly
import HandS.ReplaceLit
import KE.KUnpackStar
import PyProof.MakeMany
import HandS.ReplaceList
import PySem.Challenge.RW_payladders_k62_saved_sessions
set_option Elab.async false
set_option linter.all false
set_option maxRecDepth 100000
set_option maxHeartbeats 0
namespace Sx
open PySem PySem.Spec PyProof.Rows L2
/-- defs that make lambdas -/
def lamDefs (K : PySem.W.Frag) : List He.Defn := [("greatest_part" : Str), "least_part"].filterMap fun x => match PySem.W.nsIn K mainGlobals x with
  | some (some (.ref _)) => some (x, none)
  | _ => none
end Sx

namespace Sx
open PySem PySem.Spec PyProof.Rows L2
def isZ : List Value → Bool
  | [.int i _, .int j _] => decide (i = 0) && decide (j = 1)
  | _ => false
def exZ (K : PySem.W.Frag) : Bool := match K.lookup (He.ga K "ZERO") with
  | some o => match o.cls, o.data with
    | .type c, .seq its _ => decide (c = "tuple") && (decide (its.size ≤ 2) && (isZ its.toList && o.dict.isNone))
    | _, _ => false
  | none => false
/-- a program without lambdas -/
def exL0 (ex : PySem.W.Frag → Bool) (K : PySem.W.Frag) : Bool := ex K && (lamDefs K).isEmpty
end Sx

namespace Sx
open PySem PySem.Spec PyProof.Rows L2
def excN : List Str := ["InvalidLadder", "InvalidHolder", "InvalidAmount", "InvalidNumber", "InvalidGoal", "InvalidOptions", "InvalidChoice", "InvalidText", "Unlike", "NotSimple", "TooMany", "TooMuch", "NothingToUndo"]
end Sx

namespace Sx
open PySem PySem.Spec PyProof.Rows L2
def exC1 (K : PySem.W.Frag) (c : Str) : Bool := He.eqO (PySem.W.findIn K (.ref (He.ga K c)) "__getattribute__") (some (some (.builtin "BaseException.__getattribute__"))) &&
  (He.eqO (PySem.W.findIn K (.ref (He.ga K c)) "__getattr__") (some none) && (decide (PySem.W.subIn K (.ref (He.ga K c)) (.type "BaseException") = some true) && (PySem.W.hasDictIn K (He.ga K c) &&
  (He.eqO (PySem.W.findIn K (.ref (He.ga K c)) "__class__") (some (some (.builtin "object.__class__"))) && (He.eqO (PySem.W.specialIn K (.builtin "object.__class__") "__get__") (some (some (.builtin "getset_descriptor.__get__"))) &&
  (decide (PySem.W.takesIn K (.builtin "object.__class__") = some true) && decide (PySem.W.mroIn K (He.ga K c) (.type "object") = some true)))))))
def exC2 (K : PySem.W.Frag) (c : Str) : Bool := decide (PySem.W.kitOne K (.ref (He.ga K c)) (.type "ValueError") = some true) && (decide (PySem.W.exmOne K (.ref (He.ga K c)) (.ref (He.ga K "LadderError")) = some true) &&
  excN.all fun d => decide (PySem.W.kitOne K (.ref (He.ga K c)) (.ref (He.ga K d)) = some (decide (c = d))))
def exE (K : PySem.W.Frag) : Bool := excN.all fun c => exC1 K c && (exC2 K c && (He.Fa.exc c).ok K)
def exZE (K : PySem.W.Frag) : Bool := exZ K && exE K
end Sx

namespace Sx
open PySem PySem.Spec PyProof.Rows L2
abbrev SC (K : PySem.W.Frag) : Addr := He.ga K "Session"
end Sx

namespace Sx
open PySem PySem.W PySem.Calls PyProof.Rows HandSHeadRun
def RunA (r : OpenRow) (q : Program) (M : Nat) (loose : List PySem.Str) (w : World) : Prop :=
  ∀ os : OsState, (endF (stepQ (denQ tabQ) r.prog w) M r.prog w os).map (fun s => (looksF r.prog (boot_heap w.params) s.abs, seenQ q loose (importedModules r.prog.main.body) (fun s => xlAt q [] s && recOk r.toRowW.records s) s.abs)) = some (true, openGood q loose)
def RunB (r : OpenRow) (H : Hook) (ob : SharedT → H.α) (M : Nat) (w : World) : Prop :=
  ∀ os : OsState, (endF (stepQ (denQ tabQ) r.prog w) M r.prog w os).map (fun s => ob s) = some (H.val w)
theorem run_join {r : OpenRow} {q : Program} {H : Hook} {ob : SharedT → H.α} {M : Nat} {loose : List PySem.Str} {w : World} (a : RunA r q M loose w) (b : RunB r H ob M w) : RunEq r q H ob M loose w := fun os => by
  have a := a os
  have b := b os
  cases h : endF (stepQ (denQ tabQ) r.prog w) M r.prog w os with
  | none => rw [h] at a; cases a
  | some s =>
    rw [h] at a b
    have a := Option.some.inj a
    have b : ob s = H.val w := Option.some.inj b
    injection a with a1 a2
    show some (_, _, _) = some (_, _, _)
    rw [a1, a2, b]
end Sx

namespace Sx
open PySem PySem.Spec PyProof.Rows L2
def exSd (K : PySem.W.Frag) : Bool := He.eqO (PySem.W.findIn K (.ref (SC K)) "__class__") (some (some (.builtin "object.__class__"))) && (He.eqO (PySem.W.specialIn K (.builtin "object.__class__") "__get__") (some (some (.builtin "getset_descriptor.__get__"))) &&
  (decide (PySem.W.takesIn K (.builtin "object.__class__") = some true) && (decide (PySem.W.mroIn K (SC K) (.type "object") = some true) && (He.eqO (PySem.W.findIn K (.ref (SC K)) "__ne__") (some (some (.builtin "object.__ne__"))) &&
  (decide (PySem.W.kitOne K (.ref (SC K)) (.ref (SC K)) = some true) && (decide (PySem.W.kitOne K (.type "list") (.ref (SC K)) = some false) && (decide (PySem.W.kitOne K (.type "str") (.ref (SC K)) = some false) && (PySem.W.notFirst K (SC K) (.type "list") && PySem.W.notFirst K (SC K) (.type "str")))))))))
end Sx

namespace Sx
open PySem PySem.Spec PyProof.Rows L2
def exZES (K : PySem.W.Frag) : Bool := exZE K && exSd K
end Sx
namespace Sx
open PySem PySem.Spec PyProof.Rows L2
def top (i : Nat) : Stmt := PySem.Challenge.pw_payladders_k62_saved_sessions.main.body.getD i (.Pass ⟨0, 0, 0, 0⟩)
abbrev meth (i : Nat) : Stmt := inClass (top 44) i
abbrev R : PySem.W.OpenRow := PySem.W.OpenLaw.row PySem.Challenge.rw_payladders_k62_saved_sessions
def dd_is_between : He.DefD := ⟨("is_between", none), "is_between", "is_between", defArgs (top 18), defBody (top 18), defScope (top 18), [], []⟩
def dd_divisor : He.DefD := ⟨("divisor", none), "divisor", "divisor", defArgs (top 19), defBody (top 19), defScope (top 19), [], []⟩
def dd_fraction : He.DefD := ⟨("fraction", none), "fraction", "fraction", defArgs (top 20), defBody (top 20), defScope (top 20), [], []⟩
def dd_plus : He.DefD := ⟨("plus", none), "plus", "plus", defArgs (top 21), defBody (top 21), defScope (top 21), [], []⟩
def dd_minus : He.DefD := ⟨("minus", none), "minus", "minus", defArgs (top 22), defBody (top 22), defScope (top 22), [], []⟩
def dd_product : He.DefD := ⟨("product", none), "product", "product", defArgs (top 23), defBody (top 23), defScope (top 23), [], []⟩
def dd_quotient : He.DefD := ⟨("quotient", none), "quotient", "quotient", defArgs (top 24), defBody (top 24), defScope (top 24), [], []⟩
def dd_is_less : He.DefD := ⟨("is_less", none), "is_less", "is_less", defArgs (top 25), defBody (top 25), defScope (top 25), [], []⟩
def dd_lesser : He.DefD := ⟨("lesser", none), "lesser", "lesser", defArgs (top 26), defBody (top 26), defScope (top 26), [], []⟩
def dd_sum_of : He.DefD := ⟨("sum_of", none), "sum_of", "sum_of", defArgs (top 27), defBody (top 27), defScope (top 27), [], []⟩
def dd_are_pairs : He.DefD := ⟨("are_pairs", none), "are_pairs", "are_pairs", defArgs (top 28), defBody (top 28), defScope (top 28), [], []⟩
def dd_is_rung : He.DefD := ⟨("is_rung", none), "is_rung", "is_rung", defArgs (top 29), defBody (top 29), defScope (top 29), [], []⟩
def dd_is_endless : He.DefD := ⟨("is_endless", none), "is_endless", "is_endless", defArgs (top 30), defBody (top 30), defScope (top 30), [], []⟩
def dd_is_ladder : He.DefD := ⟨("is_ladder", none), "is_ladder", "is_ladder", defArgs (top 31), defBody (top 31), defScope (top 31), [], []⟩
def dd_check_ladder : He.DefD := ⟨("check_ladder", none), "check_ladder", "check_ladder", defArgs (top 32), defBody (top 32), defScope (top 32), [], []⟩
def dd_is_amount : He.DefD := ⟨("is_amount", none), "is_amount", "is_amount", defArgs (top 33), defBody (top 33), defScope (top 33), [], []⟩
def dd_check_amount : He.DefD := ⟨("check_amount", none), "check_amount", "check_amount", defArgs (top 34), defBody (top 34), defScope (top 34), [], []⟩
def dd_fixed_pieces : He.DefD := ⟨("fixed_pieces", none), "fixed_pieces", "fixed_pieces", defArgs (top 36), defBody (top 36), defScope (top 36), [], []⟩
def dd_share_pieces : He.DefD := ⟨("share_pieces", none), "share_pieces", "share_pieces", defArgs (top 37), defBody (top 37), defScope (top 37), [], []⟩
def dd_rung_pieces : He.DefD := ⟨("rung_pieces", none), "rung_pieces", "rung_pieces", defArgs (top 38), defBody (top 38), defScope (top 38), [], []⟩
def dd_pieces_of : He.DefD := ⟨("pieces_of", none), "pieces_of", "pieces_of", defArgs (top 39), defBody (top 39), defScope (top 39), [], []⟩
def dd_found_bends : He.DefD := ⟨("found_bends", none), "found_bends", "found_bends", defArgs (top 40), defBody (top 40), defScope (top 40), [], []⟩
def dd_payment_at : He.DefD := ⟨("payment_at", none), "payment_at", "payment_at", defArgs (top 41), defBody (top 41), defScope (top 41), [], []⟩
def dd_all_payments : He.DefD := ⟨("all_payments", none), "all_payments", "all_payments", defArgs (top 42), defBody (top 42), defScope (top 42), [], []⟩
def dd_pairs_text : He.DefD := ⟨("pairs_text", none), "pairs_text", "pairs_text", defArgs (top 46), defBody (top 46), defScope (top 46), [], []⟩
def dd_rung_text : He.DefD := ⟨("rung_text", none), "rung_text", "rung_text", defArgs (top 47), defBody (top 47), defScope (top 47), [], []⟩
def dd_ladder_text : He.DefD := ⟨("ladder_text", none), "ladder_text", "ladder_text", defArgs (top 48), defBody (top 48), defScope (top 48), [], []⟩
def dd_number_of : He.DefD := ⟨("number_of", none), "number_of", "number_of", defArgs (top 49), defBody (top 49), defScope (top 49), [], []⟩
def dd_read_pairs : He.DefD := ⟨("read_pairs", none), "read_pairs", "read_pairs", defArgs (top 50), defBody (top 50), defScope (top 50), [], []⟩
def dd_read_rung : He.DefD := ⟨("read_rung", none), "read_rung", "read_rung", defArgs (top 51), defBody (top 51), defScope (top 51), [], []⟩
def dd_parse_ladder : He.DefD := ⟨("parse_ladder", none), "parse_ladder", "parse_ladder", defArgs (top 52), defBody (top 52), defScope (top 52), [], []⟩
def dd_save : He.DefD := ⟨("save", none), "save", "save", defArgs (top 54), defBody (top 54), defScope (top 54), [], []⟩
def dd_load : He.DefD := ⟨("load", none), "load", "load", defArgs (top 55), defBody (top 55), defScope (top 55), [], []⟩
def dd__law_town : He.DefD := ⟨("_law_town", none), "_law_town", "_law_town", defArgs (top 57), defBody (top 57), defScope (top 57), [], []⟩
def dd__law_draw : He.DefD := ⟨("_law_draw", none), "_law_draw", "_law_draw", defArgs (top 58), defBody (top 58), defScope (top 58), [], []⟩
def dd__law_pick : He.DefD := ⟨("_law_pick", none), "_law_pick", "_law_pick", defArgs (top 59), defBody (top 59), defScope (top 59), [], []⟩
def dd__law_outcome : He.DefD := ⟨("_law_outcome", none), "_law_outcome", "_law_outcome", defArgs (top 60), defBody (top 60), defScope (top 60), [], []⟩
def dd__law_name : He.DefD := ⟨("_law_name", none), "_law_name", "_law_name", defArgs (top 61), defBody (top 61), defScope (top 61), [], []⟩
def dd__law_raises : He.DefD := ⟨("_law_raises", none), "_law_raises", "_law_raises", defArgs (top 62), defBody (top 62), defScope (top 62), [], []⟩
def dd__law_frac : He.DefD := ⟨("_law_frac", none), "_law_frac", "_law_frac", defArgs (top 63), defBody (top 63), defScope (top 63), [], []⟩
def dd__law_pairs : He.DefD := ⟨("_law_pairs", none), "_law_pairs", "_law_pairs", defArgs (top 64), defBody (top 64), defScope (top 64), [], []⟩
def dd__law_rung : He.DefD := ⟨("_law_rung", none), "_law_rung", "_law_rung", defArgs (top 65), defBody (top 65), defScope (top 65), [], []⟩
def dd__law_ladder : He.DefD := ⟨("_law_ladder", none), "_law_ladder", "_law_ladder", defArgs (top 66), defBody (top 66), defScope (top 66), [], []⟩
def dd__law_call : He.DefD := ⟨("_law_call", none), "_law_call", "_law_call", defArgs (top 67), defBody (top 67), defScope (top 67), [], []⟩
def dd_law : He.DefD := ⟨("law", none), "law", "law", defArgs (top 68), defBody (top 68), defScope (top 68), [], []⟩
def dd_S__init__ : He.DefD := ⟨("Session", some "__init__"), "__init__", "Session.__init__", defArgs (meth 0), defBody (meth 0), defScope (meth 0), [], []⟩
def dd_S__len__ : He.DefD := ⟨("Session", some "__len__"), "__len__", "Session.__len__", defArgs (meth 1), defBody (meth 1), defScope (meth 1), [], []⟩
def dd_S__eq__ : He.DefD := ⟨("Session", some "__eq__"), "__eq__", "Session.__eq__", defArgs (meth 2), defBody (meth 2), defScope (meth 2), [], []⟩
def dd_S__str__ : He.DefD := ⟨("Session", some "__str__"), "__str__", "Session.__str__", defArgs (meth 3), defBody (meth 3), defScope (meth 3), [], []⟩
def dd_Sput : He.DefD := ⟨("Session", some "put"), "put", "Session.put", defArgs (meth 4), defBody (meth 4), defScope (meth 4), [], []⟩
def dd_Stotal : He.DefD := ⟨("Session", some "total"), "total", "Session.total", defArgs (meth 5), defBody (meth 5), defScope (meth 5), [], []⟩
def dd_Spaid : He.DefD := ⟨("Session", some "paid"), "paid", "Session.paid", defArgs (meth 6), defBody (meth 6), defScope (meth 6), [], []⟩
def dd_Sundo : He.DefD := ⟨("Session", some "undo"), "undo", "Session.undo", defArgs (meth 7), defBody (meth 7), defScope (meth 7), [], []⟩
def dd_Sredo : He.DefD := ⟨("Session", some "redo"), "redo", "Session.redo", defArgs (meth 8), defBody (meth 8), defScope (meth 8), [], []⟩
def fn : List He.DefD := [dd_is_between, dd_divisor, dd_fraction, dd_plus, dd_minus, dd_product, dd_quotient, dd_is_less, dd_lesser, dd_sum_of, dd_are_pairs, dd_is_rung, dd_is_endless, dd_is_ladder, dd_check_ladder, dd_is_amount, dd_check_amount, dd_fixed_pieces, dd_share_pieces, dd_rung_pieces, dd_pieces_of, dd_found_bends, dd_payment_at, dd_all_payments, dd_pairs_text, dd_rung_text, dd_ladder_text, dd_number_of, dd_read_pairs, dd_read_rung, dd_parse_ladder, dd_save, dd_load, dd__law_town, dd__law_draw, dd__law_pick, dd__law_outcome, dd__law_name, dd__law_raises, dd__law_frac, dd__law_pairs, dd__law_rung, dd__law_ladder, dd__law_call, dd_law, dd_S__init__, dd_S__len__, dd_S__eq__, dd_S__str__, dd_Sput, dd_Stotal, dd_Spaid, dd_Sundo, dd_Sredo]
def fa0 : List He.Fa := [.glo "is_between", .glo "divisor", .glo "fraction", .glo "plus", .glo "minus", .glo "product", .glo "quotient", .glo "is_less", .glo "lesser", .glo "sum_of", .glo "are_pairs", .glo "is_rung", .glo "is_endless", .glo "is_ladder", .glo "check_ladder", .glo "is_amount", .glo "check_amount", .glo "fixed_pieces", .glo "share_pieces", .glo "rung_pieces", .glo "pieces_of", .glo "found_bends", .glo "payment_at", .glo "all_payments", .glo "pairs_text", .glo "rung_text", .glo "ladder_text", .glo "number_of", .glo "read_pairs", .glo "read_rung"]
def fa1 : List He.Fa := [.glo "parse_ladder", .glo "save", .glo "load", .glo "_law_town", .glo "_law_draw", .glo "_law_pick", .glo "_law_outcome", .glo "_law_name", .glo "_law_raises", .glo "_law_frac", .glo "_law_pairs", .glo "_law_rung", .glo "_law_ladder", .glo "_law_call", .glo "law", .free "len", .free "sum", .free "all", .free "any", .free "tuple", .free "list", .free "abs", .free "int", .free "str", .free "bool", .free "max", .free "min", .free "dict", .free "range", .free "enumerate"]
def fa2 : List He.Fa := [.free "zip", .free "sorted", .free "isinstance", .int "MOST" 1000000, .glo "ZERO", .glo "InvalidLadder", .glo "InvalidHolder", .glo "InvalidAmount", .glo "InvalidNumber", .glo "InvalidGoal", .glo "InvalidOptions", .glo "InvalidChoice", .glo "InvalidText", .glo "Unlike", .glo "NotSimple", .glo "TooMany", .glo "TooMuch", .glo "NothingToUndo", .glo "LadderError", .free "ValueError", .glo "Session", .cls "Session", .noat "Session" "ladder", .noat "Session" "done", .noat "Session" "undone", .mkr "Session", .meth "Session" "__len__", .meth "Session" "__eq__", .meth "Session" "__str__", .meth "Session" "put"]
def fa3 : List He.Fa := [.meth "Session" "total", .meth "Session" "paid", .meth "Session" "undo", .meth "Session" "redo"]
def fa : List He.Fa := fa0 ++ fa1 ++ fa2 ++ fa3
def loose0 : List Str := ["__name__", "LadderError", "InvalidLadder", "InvalidHolder", "InvalidAmount", "InvalidNumber", "InvalidGoal", "InvalidOptions", "InvalidChoice", "InvalidText", "Unlike", "NotSimple", "TooMany", "TooMuch", "NothingToUndo", "MOST", "ZERO", "is_between", "divisor", "fraction", "plus", "minus", "product", "quotient", "is_less", "lesser", "sum_of", "are_pairs", "is_rung", "is_endless"]
def loose1 : List Str := ["is_ladder", "check_ladder", "is_amount", "check_amount", "fixed_pieces", "share_pieces", "rung_pieces", "pieces_of", "found_bends", "payment_at", "all_payments", "Session", "pairs_text", "rung_text", "ladder_text", "number_of", "read_pairs", "read_rung", "parse_ladder", "save", "load", "_law_town", "_law_draw", "_law_pick", "_law_outcome", "_law_name", "_law_raises", "_law_frac", "_law_pairs", "_law_rung"]
def loose2 : List Str := ["_law_ladder", "_law_call"]
def loose : List Str := loose0 ++ loose1 ++ loose2
abbrev hk : PySem.W.Hook := He.hookX 5 fa fn [] [] (exL0 exZES)
def ob (s : PySem.W.SharedT) : He.AlX := He.obsX 5 fa fn [] [] (exL0 exZES) (HandSHeadRun.getT s)
theorem ob_eq (s : PySem.W.SharedT) : ob s = hk.obs s.abs := He.obsX_eq (HandSHeadRun.getT_eq s)
theorem runA (w : World) : RunA R (PySem.W.view R.prog [68]) 8000 loose w := by
  intro os
  kernel_rfl
theorem runB (w : World) : RunB R hk ob 8000 w := by
  intro os
  kernel_rfl
theorem run (w : World) : HandSHeadRun.RunEq R (PySem.W.view R.prog [68]) hk ob 8000 loose w := run_join (runA w) (runB w)
end Sx

/-! Sx: a semantic layer: every piece of code is read as a plain function over data. -/
namespace Sx
open PySem PySem.Spec PyProof.Rows L2

abbrev Dt := PyData
/-- a result: a value, an exception (its class), or nothing that is claimed -/
inductive Res (α : Type) where
  | ok (a : α) | exc (c : Str) | bad
def Res.bind {α β : Type} : Res α → (α → Res β) → Res β
  | .ok a, f => f a
  | .exc c, _ => .exc c
  | .bad, _ => .bad
@[simp] theorem Res.bind_ok {α β : Type} (a : α) (f : α → Res β) : Res.bind (.ok a) f = f a := rfl
@[simp] theorem Res.bind_exc {α β : Type} (c : Str) (f : α → Res β) : Res.bind (.exc c) f = .exc c := rfl
@[simp] theorem Res.bind_bad {α β : Type} (f : α → Res β) : Res.bind .bad f = .bad := rfl
/-- what a slot holds: data that never changes; an own list; a list of own lists; an own dict; the town -/
inductive SV where
  | d (x : Dt) | own (xs : List Dt) | ow2 (rows : List (List Dt)) | dk (kvs : List (Int × Dt)) | fd (kvs : List (Int × Dt)) | tb (kvs : List (Dt × Dt)) | fn (x : Str) | ex (c : Str) | se (L : Dt) (D U : List Dt) | sl (L : Dt) (D U : List Dt) | town
abbrev Sl := List (Option SV)
abbrev Tw := Option (List Dt)

/-! ### data over heaps -/
theorem rd_mono {F F' : Hp} {a : Addr} {u : HO} (e : Same F F') (h : Rd F a u) : Rd F' a u := by
  rcases h with h | ⟨o, h⟩
  · exact .inl (e _ _ h)
  · exact .inr ⟨o, e _ _ h⟩
theorem sqT_mono {K : PySem.W.Frag} {F F' : Hp} {a : Addr} {xs : List V} (e : Same F F') (h : SqT K F a xs) : SqT K F' a xs := by
  rcases h with h | h
  · exact .inl (rd_mono e h)
  · exact .inr h
/-- a dict whose keys are tuples of ints: its entries -/
def TabO (a : Addr) (xs : List (List Key × Addr × Value)) : HO := .ext fun h => (xs.length ≤ sizeLine ∧ (a == sysModules) = false ∧ (xs.map (·.1)).Nodup) ∧ ∃ o es ep, h.get? a = some o ∧ o.ExactDict ∧ o.data = .dict es ep ∧ ∀ (P : Program) (w : World), es.toList = xs.map (entryOfKey (tupleKind (mixKind P w)))
/-- the object at a has no dict of its own -/
def PlT (K : PySem.W.Frag) (F : Hp) (a : Addr) (xs : List V) : Prop := (∃ o, F a = some (.frz o (.tup xs)) ∧ o.dict = none) ∨ ∃ o, K.lookup a = some o ∧ o.dict = none
theorem plT_mono {K : PySem.W.Frag} {F F' : Hp} {a : Addr} {xs : List V} (e : Same F F') (h : PlT K F a xs) : PlT K F' a xs := by
  rcases h with ⟨o, h1, h2⟩ | h
  · exact .inl ⟨o, e _ _ h1, h2⟩
  · exact .inr h
mutual
/-- data over a heap: a list is a tracked one -/
inductive Dq (K : PySem.W.Frag) (H : Hp) : V → Dt → Prop
  | non : Dq K H .non .none
  | bl (b : Bool) : Dq K H (.bl b) (.bool b)
  | int (i : Int) : Dq K H (.int i) (.int i)
  | str (x : Str) : Dq K H (.str x) (.str x)
  | lst {a : Addr} {xs : List V} {ds : List Dt} : SqL K H a xs → DqAll K H xs ds → Dq K H (.ref a) (.list ds)
  | tup {a : Addr} {xs : List V} {ds : List Dt} : SqT K H a xs → DqAll K H xs ds → PlT K H a xs → Dq K H (.ref a) (.tuple ds)
  | tab {a : Addr} {xs : List (List Key × Addr × Value)} {kvs : List (Dt × Dt)} : H a = some (TabO a xs) → DqTab K H xs kvs → Dq K H (.ref a) (.dict kvs)
inductive DqAll (K : PySem.W.Frag) (H : Hp) : List V → List Dt → Prop
  | nil : DqAll K H [] []
  | cons {v : V} {vs : List V} {d : Dt} {ds : List Dt} : Dq K H v d → DqAll K H vs ds → DqAll K H (v :: vs) (d :: ds)
inductive DqTab (K : PySem.W.Frag) (H : Hp) : List (List Key × Addr × Value) → List (Dt × Dt) → Prop
  | nil : DqTab K H [] []
  | cons {ks : List Int} {b : Addr} {u : Value} {v : V} {d : Dt} {xs : List (List Key × Addr × Value)} {kvs : List (Dt × Dt)} : SqT K H b (ks.map V.int) → L2.RelV v u → Dq K H v d → DqTab K H xs kvs → DqTab K H ((ks.map Sum.inl, b, u) :: xs) ((.tuple (ks.map PyData.int), d) :: kvs)
end
mutual
theorem dq_dp {K : PySem.W.Frag} {F F' : Hp} (e : Same F F') : ∀ (d : Dt) (v : V), d.canLay0 = true → Dq K F v d → Dp K F' v d
  | .none, _, _, h => by cases h; exact .non
  | .bool b, _, _, h => by cases h; exact .bl b
  | .int i, _, _, h => by cases h; exact .int i
  | .str x, _, _, h => by cases h; exact .str x
  | .list ds, _, c, h => by
    cases h with
    | lst hs ha => exact .lst (e.seq hs) (dqAll_dp e ds _ (by simpa [PyData.canLay0] using c) ha)
  | .tuple ds, _, c, h => by
    cases h with
    | tup hs ha => exact .tup (sqT_mono e hs) (dqAll_dp e ds _ (by simpa [PyData.canLay0] using c) ha)
  | .dict _, _, c, _ => nomatch c
theorem dqAll_dp {K : PySem.W.Frag} {F F' : Hp} (e : Same F F') : ∀ (ds : List Dt) (vs : List V), PyData.canLayAll0 ds = true → DqAll K F vs ds → DpAll K F' vs ds
  | [], _, _, h => by cases h; exact .nil
  | d :: ds, _, c, h => by
    have c : d.canLay0 = true ∧ PyData.canLayAll0 ds = true := by simpa [PyData.canLayAll0] using c
    cases h with
    | cons h1 h2 => exact .cons (dq_dp e d _ c.1 h1) (dqAll_dp e ds _ c.2 h2)
end
mutual
theorem dq_mono {K : PySem.W.Frag} {F F' : Hp} (e : Same F F') : ∀ (d : Dt) (v : V), Dq K F v d → Dq K F' v d
  | .none, _, h => by cases h; exact .non
  | .bool b, _, h => by cases h; exact .bl b
  | .int i, _, h => by cases h; exact .int i
  | .str x, _, h => by cases h; exact .str x
  | .list ds, _, h => by
    cases h with
    | lst hs ha => exact .lst (e.seq hs) (dqAll_mono e ds _ ha)
  | .tuple ds, _, h => by
    cases h with
    | tup hs ha hp => exact .tup (sqT_mono e hs) (dqAll_mono e ds _ ha) (plT_mono e hp)
  | .dict kvs, _, h => by
    cases h with
    | tab h1 h2 => exact .tab (e _ _ h1) (dqTab_mono e kvs _ h2)
theorem dqAll_mono {K : PySem.W.Frag} {F F' : Hp} (e : Same F F') : ∀ (ds : List Dt) (vs : List V), DqAll K F vs ds → DqAll K F' vs ds
  | [], _, h => by cases h; exact .nil
  | d :: ds, _, h => by
    cases h with
    | cons h1 h2 => exact .cons (dq_mono e d _ h1) (dqAll_mono e ds _ h2)
theorem dqTab_mono {K : PySem.W.Frag} {F F' : Hp} (e : Same F F') : ∀ (kvs : List (Dt × Dt)) (xs : List (List Key × Addr × Value)), DqTab K F xs kvs → DqTab K F' xs kvs
  | [], _, h => by cases h; exact .nil
  | (k, d) :: kvs, _, h => by
    cases h with
    | cons h1 h2 h3 h4 => exact .cons (sqT_mono e h1) h2 (dq_mono e d _ h3) (dqTab_mono e kvs _ h4)
end
section
variable {K : PySem.W.Frag} {F F' H H' : Hp} {v : V} {vs us : List V} {d : Dt} {ds es : List Dt}
theorem Dq.mono (h : Dq K F v d) (e : Same F F') : Dq K F' v d := dq_mono e d v h
theorem DqAll.mono (h : DqAll K F vs ds) (e : Same F F') : DqAll K F' vs ds := dqAll_mono e ds vs h
theorem DqAll.length : ∀ {vs : List V} {ds : List Dt}, DqAll K F vs ds → vs.length = ds.length
  | _, _, .nil => rfl
  | _, _, .cons _ t => by rw [List.length_cons, List.length_cons, DqAll.length t]
theorem DqAll.get : ∀ {vs : List V} {ds : List Dt} {i : Nat} {v : V}, DqAll K F vs ds → vs[i]? = some v → ∃ d, ds[i]? = some d ∧ Dq K F v d
  | _, _, _, _, .nil, e => by simp at e
  | _, _, 0, _, .cons h _, e => by simp at e; subst e; exact ⟨_, rfl, h⟩
  | _, _, i + 1, v, .cons _ t, e => by
    obtain ⟨d, h1, h2⟩ := DqAll.get (i := i) (v := v) t (by simpa using e)
    exact ⟨d, by simpa using h1, h2⟩
theorem DqAll.getD : ∀ {vs : List V} {ds : List Dt} {i : Nat} {d : Dt}, DqAll K F vs ds → ds[i]? = some d → ∃ v, vs[i]? = some v ∧ Dq K F v d
  | _, _, _, _, .nil, e => by simp at e
  | _, _, 0, _, .cons h _, e => by simp at e; subst e; exact ⟨_, rfl, h⟩
  | _, _, i + 1, v, .cons _ t, e => by
    obtain ⟨d, h1, h2⟩ := DqAll.getD (i := i) (d := v) t (by simpa using e)
    exact ⟨d, by simpa using h1, h2⟩
theorem DqAll.append : ∀ {vs : List V} {ds : List Dt}, DqAll K F vs ds → DqAll K F us es → DqAll K F (vs ++ us) (ds ++ es)
  | _, _, .nil, h => h
  | _, _, .cons h t, g => .cons h (DqAll.append t g)
theorem DqAll.one (h : Dq K F v d) : DqAll K F [v] [d] := .cons h .nil
theorem DqAll.take : ∀ {vs : List V} {ds : List Dt} (n : Nat), DqAll K F vs ds → DqAll K F (vs.take n) (ds.take n)
  | _, _, 0, _ => .nil
  | _, _, _ + 1, .nil => .nil
  | _, _, n + 1, .cons h t => .cons h (DqAll.take n t)
theorem DqAll.drop : ∀ {vs : List V} {ds : List Dt} (n : Nat), DqAll K F vs ds → DqAll K F (vs.drop n) (ds.drop n)
  | _, _, 0, h => h
  | _, _, _ + 1, .nil => .nil
  | _, _, n + 1, .cons _ t => DqAll.drop n t
theorem DqAll.set : ∀ {vs : List V} {ds : List Dt} (i : Nat), DqAll K F vs ds → Dq K F v d → DqAll K F (vs.set i v) (ds.set i d)
  | _, _, _, .nil, _ => .nil
  | _, _, 0, .cons _ t, g => .cons g t
  | _, _, i + 1, .cons h t, g => .cons h (DqAll.set i t g)
theorem DqAll.rep (h : DqAll K F vs ds) : ∀ k : Nat, DqAll K F (List.replicate k vs).flatten (List.replicate k ds).flatten
  | 0 => .nil
  | k + 1 => by
    rw [List.replicate_succ, List.replicate_succ, List.flatten_cons, List.flatten_cons]
    exact h.append (DqAll.rep h k)
end

/-! ### tables of code objects -/
/-- not a table -/
def NT (o : HO) : Prop := ∀ ps, o ≠ .tbl ps
theorem nt_lst {vs : List V} : NT (.lst vs) := fun _ z => nomatch z
theorem nt_ins {C dx : Addr} {fs : List (Str × V)} : NT (.ins C dx fs) := fun _ z => nomatch z
theorem nt_dK {vs : List (Key × V)} : NT (.dK vs) := fun _ z => nomatch z
theorem nt_tab {a : Addr} {xs : List (List Key × Addr × Value)} : NT (TabO a xs) := fun _ z => by
  unfold TabO at z
  cases z
def tabsOf (K : PySem.W.Frag) : List (Addr × Str) := (lamDefs K).map fun p => ((He.cT K p).2, p.1 ++ ".<locals>.<lambda>")
/-- a table: what it tells never changes -/
def TabF (F H : Hp) (P : Addr) (q : Str) : Prop := F P = none ∧ ∃ ps : Array Value, H P = some (.tbl ps) ∧ TriplesOk ps.toList ∧ ∀ (pos : Pos) (cv : Value), codeAmong pos ps.toList = some cv → ∃ c, cv = .ref c ∧ F c = some (LamX.CodeO c q)
def TabsF (T : List (Addr × Str)) (F H : Hp) : Prop := ∀ p ∈ T, TabF F H p.1 p.2
theorem TabF.grow {F H F' H' : Hp} {P : Addr} {q : Str} (t : TabF F H P q) (f : Same F F') (n : ∀ ps, H P = some (.tbl ps) → F P = none → F' P = none) (k : ∀ ps, H P = some (.tbl ps) → H' P = some (.tbl ps)) : TabF F' H' P q := by
  obtain ⟨h0, ps, h1, h2, h3⟩ := t
  refine ⟨n ps h1 h0, ps, k ps h1, h2, fun pos cv e => ?_⟩
  obtain ⟨c, e1, e2⟩ := h3 pos cv e
  exact ⟨c, e1, f _ _ e2⟩
theorem tbl_ne {H : Hp} {p P : Addr} {o : HO} {ps : Array Value} (hp : H p = some o) (ho : NT o) (e : H P = some (.tbl ps)) : P ≠ p := fun z => ho ps (by rw [z, hp] at e; exact Option.some.inj e)
theorem TabsF.ff {T : List (Addr × Str)} {F H : Hp} {p : Addr} {o u : HO} (t : TabsF T F H) (hF : F p = none) (hp : H p = some o) (ho : NT o) : TabsF T (upd F p u) H := fun p hp' => (t p hp').grow (fun b x e => by rw [upd_ne (ne_of_none e hF)]; exact e) (fun ps e n => by rw [upd_ne (tbl_ne hp ho e)]; exact n) fun _ e => e
theorem TabsF.newH {T : List (Addr × Str)} {F H : Hp} {p : Addr} {o : HO} (t : TabsF T F H) (h : H p = none) : TabsF T F (upd H p o) := fun x hx => (t x hx).grow (.refl _) (fun _ _ n => n) fun ps e => by
  rw [upd_ne (ne_of_none e h)]; exact e
theorem TabsF.new {T : List (Addr × Str)} {F H : Hp} {p : Addr} {u o : HO} (t : TabsF T F H) (hF : F p = none) (h : H p = none) : TabsF T (upd F p u) (upd H p o) := fun x hx => (t x hx).grow (fun b x e => by rw [upd_ne (ne_of_none e hF)]; exact e) (fun ps e n => by rw [upd_ne (ne_of_none e h)]; exact n) fun ps e => by
  rw [upd_ne (ne_of_none e h)]; exact e
theorem TabsF.mut {T : List (Addr × Str)} {F H : Hp} {p : Addr} {o o' : HO} (t : TabsF T F H) (hp : H p = some o) (ho : NT o) : TabsF T F (upd H p o') := fun x hx => (t x hx).grow (.refl _) (fun _ _ n => n) fun ps e => by
  rw [upd_ne (tbl_ne hp ho e)]; exact e
theorem nt_frz {o : Obj} {u : HO} : NT (.frz o u) := fun _ z => nomatch z
theorem frz_code {o : Obj} {u : HO} (c : Addr) (q : Str) : HO.frz o u ≠ LamX.CodeO c q := fun z => by unfold LamX.CodeO at z; cases z
theorem lst_code {vs : List V} (c : Addr) (q : Str) : HO.lst vs ≠ LamX.CodeO c q := fun z => by unfold LamX.CodeO at z; cases z
/-! ### lambdas -/
/-- a lambda's words -/
structure LF where
  q : Str
  params : Arguments
  body : Expr
  scope : Scope
/-- the object at f is the lambda L, its code object at c -/
def LamO (f c : Addr) (L : LF) : HO := .ext fun h => ∃ pm ctv : Value, h.get? f = some (PySem.W.kla_obj "<lambda>" L.q L.params L.body L.scope [] pm c ctv)
/-- the lambda that a call's last argument is -/
def lamLast : List Expr → Option (Arguments × Expr × Scope)
  | [] => none
  | [.Lambda p b s _] => some (p, b, s)
  | _ :: es => lamLast es
def lamBody : List Stmt → Option (Arguments × Expr × Scope)
  | [] => none
  | .Return (some (.Call _ es _ _)) _ :: _ => lamLast es
  | _ :: sts => lamBody sts
/-- the lambda within the def x -/
def lamOf (K : PySem.W.Frag) (x : Str) : Option LF := match K.lookup (He.fAd K (x, none)) with
  | some o => match o.data with
    | .func fd => match fd.body with
      | .stmts b => (lamBody b).map fun p => ⟨x ++ ".<locals>.<lambda>", p.1, p.2.1, p.2.2⟩
      | _ => none
    | _ => none
  | none => none
/-! ### how heaps grow -/
structure Gr (K : PySem.W.Frag) (M : Addr → Prop) (F H F' H' : Hp) : Prop where
  ff : Same F F'
  fh : Same F' H'
  nw : ∀ a, F' a ≠ none → F a ≠ none ∨ H a = none
  kp : ∀ a o, H a = some o → ¬ M a → NT o → H' a = some o
  th : ∀ a, H a ≠ none → H' a ≠ none
  tb : TabsF (tabsOf K) F H → TabsF (tabsOf K) F' H'
abbrev Gr0 (K : PySem.W.Frag) : Hp → Hp → Hp → Hp → Prop := Gr K (fun _ => False)
section
variable {K : PySem.W.Frag} {M M' : Addr → Prop} {F H F1 H1 F2 H2 : Hp} {p : Addr} {o : HO}
theorem Gr.refl (h : Same F H) : Gr K M F H F H := ⟨.refl _, h, fun _ e => .inl e, fun _ _ e _ _ => e, fun _ e => e, fun t => t⟩
theorem Gr.trans (a : Gr K M F H F1 H1) (b : Gr K M F1 H1 F2 H2) : Gr K M F H F2 H2 where
  ff := a.ff.trans b.ff
  fh := b.fh
  nw := fun x e => by
    rcases b.nw x e with z | z
    · exact a.nw x z
    · exact .inr (Classical.byContradiction fun q => a.th x q z)
  kp := fun x u e n k => b.kp x u (a.kp x u e n k) n k
  th := fun x e => b.th x (a.th x e)
  tb := fun t => b.tb (a.tb t)
theorem Gr.mono (a : Gr K M F H F1 H1) (h : ∀ x, M x → M' x) : Gr K M' F H F1 H1 := ⟨a.ff, a.fh, a.nw, fun x u e n => a.kp x u e fun z => n (h x z), a.th, a.tb⟩
theorem Gr.any (a : Gr0 K F H F1 H1) : Gr K M F H F1 H1 := a.mono fun _ z => z.elim
theorem same_new (h : H p = none) : Same H (upd H p o) := fun b x e => by
  rw [upd_ne (ne_of_none e h)]
  exact e
theorem same_both (s : Same F H) : Same (upd F p o) (upd H p o) := fun b x e => by
  by_cases hb : b = p
  · subst hb; rw [upd_same] at e ⊢; exact e
  · rw [upd_ne hb] at e ⊢; exact s b x e
/-- a new object that never changes -/
theorem Gr.new (s : Same F H) (h : H p = none) : Gr K M F H (upd F p o) (upd H p o) where
  ff := same_new (s.free h)
  fh := same_both s
  nw := fun a e => by
    by_cases ha : a = p
    · subst ha; exact .inr h
    · rw [upd_ne ha] at e; exact .inl e
  kp := fun a u e _ _ => same_new h a u e
  th := fun a e => by
    by_cases ha : a = p
    · subst ha; rw [upd_same]; exact fun z => nomatch z
    · rw [upd_ne ha]; exact e
  tb := fun t => t.new (s.free h) h
/-- a new object that may change -/
theorem Gr.newH (s : Same F H) (h : H p = none) : Gr K M F H F (upd H p o) where
  ff := .refl _
  fh := s.trans (same_new h)
  nw := fun a e => .inl e
  kp := fun a u e _ _ => same_new h a u e
  th := fun a e => by
    by_cases ha : a = p
    · subst ha; rw [upd_same]; exact fun z => nomatch z
    · rw [upd_ne ha]; exact e
  tb := fun t => t.newH h
theorem same_mut (s : Same F H) (h : F p = none) : Same F (upd H p o) := fun b x e => by
  rw [upd_ne (ne_of_none e h)]
  exact s b x e
end

/-! ### the state of a def that runs -/
structure Gh where
  K : PySem.W.Frag
  T0 : Option Addr
  F0 : Hp
  H0 : Hp
  ext : List (Addr × HO)
  T : Option Addr
  fp : Nat → List Addr
def Gh.tm (G : Gh) : Addr → Prop := fun a => G.T0 = some a
def TwOk (K : PySem.W.Frag) (F H : Hp) : Option Addr → Tw → Prop
  | none, none => True
  | some t, some ws => ∃ tv, H t = some (.lst tv) ∧ F t = none ∧ DqAll K F tv ws
  | _, _ => False
/-- rows of own lists -/
inductive Rows (K : PySem.W.Frag) (F H : Hp) : List Addr → List (List Dt) → Prop
  | nil : Rows K F H [] []
  | cons {q : Addr} {qs : List Addr} {vs : List V} {r : List Dt} {rs : List (List Dt)} : H q = some (.lst vs) → DqAll K F vs r → Rows K F H qs rs → Rows K F H (q :: qs) (r :: rs)
/-- the entries of a dict whose keys are ints -/
inductive KvOk (K : PySem.W.Frag) (F : Hp) : List (Key × V) → List (Int × Dt) → Prop
  | nil : KvOk K F [] []
  | cons {k : Int} {v : V} {d : Dt} {vs : List (Key × V)} {ds : List (Int × Dt)} : Dq K F v d → KvOk K F vs ds → KvOk K F ((.inl k, v) :: vs) ((k, d) :: ds)
theorem KvOk.mono {K : PySem.W.Frag} {F F' : Hp} (e : Same F F') : ∀ {vs : List (Key × V)} {ds : List (Int × Dt)}, KvOk K F vs ds → KvOk K F' vs ds
  | _, _, .nil => .nil
  | _, _, .cons h t => .cons (h.mono e) (KvOk.mono e t)
/-- an exception of the class cls at a -/
def KxO (cls : Value) (a : Addr) : HO := .ext fun h => ∃ (oe : Obj) (vs : Array Value), h.get? a = some oe ∧ L2.Zc cls none oe ∧ oe.data = .fields vs
/-- a session's fields -/
def sesF (vL : V) (p q : Addr) : List (Str × V) := [("ladder", vL), ("done", .ref p), ("undone", .ref q)]
/-- a session at a, its lists at p and q: the ladder L, what is done, what is undone -/
def SesAt (K : PySem.W.Frag) (F H : Hp) (a p q : Addr) (L : Dt) (D U : List Dt) : Prop := ∃ dx vL vD vU, H a = some (.ins (He.ga K "Session") dx (sesF vL p q)) ∧ H p = some (.lst vD) ∧ H q = some (.lst vU) ∧ Dq K F vL L ∧ DqAll K F vD D ∧ DqAll K F vU U ∧ p ≠ q
def SlOk (K : PySem.W.Frag) (T : Option Addr) (F H : Hp) (v : V) (fp : List Addr) : SV → Prop
  | .d x => Dq K F v x
  | .own xs => ∃ p vs, v = .ref p ∧ fp = [p] ∧ H p = some (.lst vs) ∧ DqAll K F vs xs
  | .ow2 rows => ∃ p qs, v = .ref p ∧ fp = p :: qs ∧ H p = some (.lst (qs.map V.ref)) ∧ Rows K F H qs rows ∧ (p :: qs).Nodup
  | .dk kvs => ∃ p vs, v = .ref p ∧ fp = [p] ∧ H p = some (.dK vs) ∧ KvOk K F vs kvs
  | .fd kvs => ∃ p o vs, v = .ref p ∧ F p = some (.frz o (.dK vs)) ∧ KvOk K F vs kvs
  | .tb kvs => ∃ p xs, v = .ref p ∧ fp = [p] ∧ H p = some (TabO p xs) ∧ DqTab K F xs kvs
  | .fn x => ∃ f c L, v = .ref f ∧ lamOf K x = some L ∧ F f = some (LamO f c L) ∧ F c = some (LamX.CodeO c L.q)
  | .ex c => ∃ a, v = .ref a ∧ F a = some (KxO (.ref (He.ga K c)) a)
  | .se L D U => ∃ a p q, v = .ref a ∧ fp = [a, p, q] ∧ SesAt K F H a p q L D U
  | .sl L D U => ∃ a p q dx vL, v = .ref a ∧ F a = some (.ins (He.ga K "Session") dx (sesF vL p q)) ∧ Dq K F vL L ∧ Dq K F (.ref p) (.list D) ∧ Dq K F (.ref q) (.list U)
  | .town => ∃ t, T = some t ∧ v = .ref t
structure Rel (K : PySem.W.Frag) (G : Gh) (ρ : Sl) (W : Tw) (σ : L2.St) (F H : Hp) : Prop where
  gr : Gr K G.tm G.F0 G.H0 F H
  len : ρ.length = σ.length
  t0 : ∀ t, G.T0 = some t → G.T = some t
  t1 : ∀ t, G.T = some t → G.T0 = some t ∨ G.H0 t = none
  tw : TwOk K F H G.T W
  sl : ∀ (i : Nat) (sv : SV), ρ[i]? = some (some sv) → ∃ v, σ[i]? = some (some v) ∧ SlOk K G.T F H v (G.fp i) sv
  dj : ∀ (i j : Nat) (a : Addr), a ∈ G.fp i → a ∈ G.fp j → i = j
  fr : ∀ (i : Nat) (a : Addr), a ∈ G.fp i → F a = none ∧ H a ≠ none ∧ G.H0 a = none ∧ G.T ≠ some a
  ex : ∀ e ∈ G.ext, H e.1 = some e.2 ∧ F e.1 = none ∧ G.T ≠ some e.1 ∧ ∀ i, e.1 ∉ G.fp i
  xt : ∀ e ∈ G.ext, NT e.2
  tb : TabsF (tabsOf K) F H
  kk : G.K = K

section
variable {K : PySem.W.Frag} {G : Gh} {ρ : Sl} {W W' : Tw} {σ : L2.St} {F H F' H' : Hp}
theorem Rel.fh (R : Rel K G ρ W σ F H) : Same F H := R.gr.fh
theorem SlOk.keep {T : Option Addr} {v : V} {fp : List Addr} {sv : SV} (e : Same F F') (k : ∀ a o, H a = some o → NT o → a ∈ fp → H' a = some o) (h : SlOk K T F H v fp sv) : SlOk K T F' H' v fp sv := by
  cases sv with
  | d x => exact Dq.mono h e
  | own xs =>
    obtain ⟨p, vs, rfl, rfl, hp, ha⟩ := h
    exact ⟨p, vs, rfl, rfl, k p _ hp nt_lst (by simp), ha.mono e⟩
  | ow2 rows =>
    obtain ⟨p, qs, rfl, rfl, hp, hr, nd⟩ := h
    refine ⟨p, qs, rfl, rfl, k p _ hp nt_lst (by simp), ?_, nd⟩
    have : ∀ {qs' : List Addr} {rs : List (List Dt)}, (∀ a ∈ qs', a ∈ qs) → Rows K F H qs' rs → Rows K F' H' qs' rs := by
      intro qs' rs hm r
      induction r with
      | nil => exact .nil
      | cons hq a t ih => exact .cons (k _ _ hq nt_lst (List.mem_cons_of_mem _ (hm _ (by simp)))) (a.mono e) (ih fun b hb => hm b (List.mem_cons_of_mem _ hb))
    exact this (fun _ z => z) hr
  | dk kvs =>
    obtain ⟨p, vs, rfl, rfl, hp, ha⟩ := h
    exact ⟨p, vs, rfl, rfl, k p _ hp nt_dK (by simp), ha.mono e⟩
  | fd kvs =>
    obtain ⟨p, o, vs, rfl, hp, ha⟩ := h
    exact ⟨p, o, vs, rfl, e _ _ hp, ha.mono e⟩
  | tb kvs =>
    obtain ⟨p, xs, rfl, rfl, hp, ha⟩ := h
    exact ⟨p, xs, rfl, rfl, k p _ hp nt_tab (by simp), dqTab_mono e _ _ ha⟩
  | fn x =>
    obtain ⟨f, c, L, h1, h2, h3, h4⟩ := h
    exact ⟨f, c, L, h1, h2, e _ _ h3, e _ _ h4⟩
  | ex c =>
    obtain ⟨a, h1, h2⟩ := h
    exact ⟨a, h1, e _ _ h2⟩
  | se L D U =>
    obtain ⟨a, p, q, rfl, rfl, dx, vL, vD, vU, h1, h2, h3, h4, h5, h6, h7⟩ := h
    exact ⟨a, p, q, rfl, rfl, dx, vL, vD, vU, k a _ h1 nt_ins (by simp), k p _ h2 nt_lst (by simp), k q _ h3 nt_lst (by simp), h4.mono e, h5.mono e, h6.mono e, h7⟩
  | sl L D U =>
    obtain ⟨a, p, q, dx, vL, rfl, h1, h2, h3, h4⟩ := h
    exact ⟨a, p, q, dx, vL, rfl, e _ _ h1, h2.mono e, h3.mono e, h4.mono e⟩
  | town => exact h
/-- nothing that stood has changed -/
theorem Rel.grow (R : Rel K G ρ W σ F H) (g : Gr0 K F H F' H') : Rel K G ρ W σ F' H' where
  gr := R.gr.trans g.any
  len := R.len
  t0 := R.t0
  t1 := R.t1
  tw := by
    have h := R.tw
    revert h
    cases G.T <;> cases W <;> intro h
    · trivial
    · exact h
    · exact h
    · obtain ⟨tv, h1, h2, h3⟩ := h
      refine ⟨tv, g.kp _ _ h1 (fun z => z) nt_lst, ?_, h3.mono g.ff⟩
      exact Classical.byContradiction fun z => by
        rcases g.nw _ z with q | q
        · exact q h2
        · rw [h1] at q; cases q
  sl := fun i sv e => by
    obtain ⟨v, h1, h2⟩ := R.sl i sv e
    exact ⟨v, h1, h2.keep g.ff fun a o e n _ => g.kp a o e (fun z => z) n⟩
  dj := R.dj
  fr := fun i a ha => by
    obtain ⟨h1, h2, h3, h4⟩ := R.fr i a ha
    refine ⟨?_, g.th a h2, h3, h4⟩
    exact Classical.byContradiction fun z => by
      rcases g.nw _ z with q | q
      · exact q h1
      · exact h2 q
  ex := fun e he => by
    obtain ⟨h1, h2, h3⟩ := R.ex e he
    refine ⟨g.kp _ _ h1 (fun z => z) (R.xt e he), ?_, h3⟩
    exact Classical.byContradiction fun z => by
      rcases g.nw _ z with q | q
      · exact q h2
      · rw [h1] at q; cases q
  xt := R.xt
  tb := g.tb R.tb
  kk := R.kk
end

/-- an address that none of the state's changing things has -/
def Fresh (G : Gh) (p : Addr) : Prop := G.H0 p = none ∧ (∀ i, p ∉ G.fp i) ∧ G.T ≠ some p ∧ ∀ e ∈ G.ext, e.1 ≠ p
theorem Rel.fresh {K : PySem.W.Frag} {G : Gh} {ρ : Sl} {W : Tw} {σ : L2.St} {F H : Hp} (R : Rel K G ρ W σ F H) {p : Addr} (h : H p = none) : Fresh G p := by
  refine ⟨Classical.byContradiction fun z => R.gr.th p z h, fun i hi => (R.fr i p hi).2.1 h, fun e => ?_, fun e he z => ?_⟩
  · have t := R.tw
    rw [e] at t
    cases W with
    | none => exact t
    | some ws => obtain ⟨tv, h1, _⟩ := t; rw [h] at h1; cases h1
  · have := (R.ex e he).1
    rw [z, h] at this
    cases this
/-- a thing that may change is told to all: from now on it never changes -/
theorem Rel.freeze {K : PySem.W.Frag} {G : Gh} {ρ : Sl} {W : Tw} {σ : L2.St} {F H : Hp} (R : Rel K G ρ W σ F H) {p : Addr} {o : HO} (h : H p = some o) (hF : F p = none) (fr : Fresh G p) (nt : NT o := by exact nt_lst) : Rel K G ρ W σ (upd F p o) H := by
  obtain ⟨f1, f2, f3, f4⟩ := fr
  have sF : Same F (upd F p o) := same_new hF
  refine ⟨⟨R.gr.ff.trans sF, fun a u e => ?_, fun a e => ?_, R.gr.kp, R.gr.th, fun t => (R.gr.tb t).ff hF h nt⟩, R.len, R.t0, R.t1, ?_, fun i sv e => ?_, R.dj, fun i a ha => ?_, fun e he => ?_, R.xt, R.tb.ff hF h nt, R.kk⟩
  · by_cases ha : a = p
    · subst ha; rw [upd_same] at e; cases e; exact h
    · rw [upd_ne ha] at e; exact R.fh a u e
  · by_cases ha : a = p
    · subst ha; exact .inr f1
    · rw [upd_ne ha] at e; exact R.gr.nw a e
  · have t := R.tw
    revert t
    cases hT : G.T <;> cases W <;> intro t
    · trivial
    · exact t
    · exact t
    · obtain ⟨tv, h1, h2, h3⟩ := t
      exact ⟨tv, h1, by rw [upd_ne (fun z => f3 (by rw [hT, z]))]; exact h2, h3.mono sF⟩
  · obtain ⟨v, h1, h2⟩ := R.sl i sv e
    exact ⟨v, h1, h2.keep sF fun _ _ e _ _ => e⟩
  · obtain ⟨h1, h2⟩ := R.fr i a ha
    have hne : a ≠ p := fun z => f2 i (by rw [← z]; exact ha)
    exact ⟨by rw [upd_ne hne]; exact h1, h2⟩
  · obtain ⟨h1, h2, h3⟩ := R.ex e he
    exact ⟨h1, by rw [upd_ne (f4 e he)]; exact h2, h3⟩

/-! ### readings -/
def Pg {α : Type} (XE : Str → Hp → Prop) (G : Gh) (r : Res (α × Tw)) (P : α → Tw → Prop) : Prop :=
  match r with
  | .ok p => P p.1 p.2
  | .exc c => ∀ F' H', Gr G.K G.tm G.F0 G.H0 F' H' → XE c H'
  | .bad => False
section
variable {α β : Type} {XE : Str → Hp → Prop} {G : Gh}
theorem Pg.of_bind {r : Res (α × Tw)} {k : α × Tw → Res (β × Tw)} {P : β → Tw → Prop} (h : Pg XE G (r.bind k) P) : Pg XE G r fun a W' => Pg XE G (k (a, W')) P := by
  cases r with
  | ok p => exact h
  | exc c => exact h
  | bad => exact h
theorem Pg.mono {r : Res (α × Tw)} {P P' : α → Tw → Prop} (h : Pg XE G r P) (m : ∀ a W', P a W' → P' a W') : Pg XE G r P' := by
  cases r with
  | ok p => exact m _ _ h
  | exc c => exact h
  | bad => exact h
end
def ofO {α : Type} : Option α → Tw → Res (α × Tw)
  | some a, W => .ok (a, W)
  | none, _ => .bad
theorem Pg.of_ofO {α : Type} {XE : Str → Hp → Prop} {G : Gh} {o : Option α} {W : Tw} {P : α → Tw → Prop} (h : Pg XE G (ofO o W) P) : ∃ a, o = some a ∧ P a W := by
  cases o with
  | none => exact h.elim
  | some a => exact ⟨a, rfl, h⟩
/-- to be read: data, or an own list (its items are data) -/
def RB (K : PySem.W.Frag) (F H : Hp) (v : V) (d : Dt) : Prop := Dq K F v d ∨ ∃ p vs ds, v = .ref p ∧ d = .list ds ∧ H p = some (.lst vs) ∧ DqAll K F vs ds
def Stb (K : PySem.W.Frag) (G : Gh) (ρ : Sl) (σ : L2.St) (F : Hp) (v : V) (d : Dt) : Prop := ∀ F' H' W', Same F F' → Rel K G ρ W' σ F' H' → RB K F' H' v d
abbrev SE := Sl → Tw → Res (Dt × Tw)
abbrev SB := Sl → Tw → Res (Bool × Tw)
abbrev SA := Sl → Tw → Res (List Dt × Tw)
def tE (K : PySem.W.Frag) (XE : Str → Hp → Prop) (f : SE) : TE := fun σ H Q => ∃ G ρ W F, Rel K G ρ W σ F H ∧
  Pg XE G (f ρ W) fun d W' => ∀ v F' H', Same F F' → Rel K G ρ W' σ F' H' → Dq K F' v d → Q v H'
def tR (K : PySem.W.Frag) (XE : Str → Hp → Prop) (f : SE) : TE := fun σ H Q => ∃ G ρ W F, Rel K G ρ W σ F H ∧
  Pg XE G (f ρ W) fun d W' => ∀ v F' H', Same F F' → Rel K G ρ W' σ F' H' → Stb K G ρ σ F' v d → Q v H'
/-- a new list, not yet told to anyone -/
def tL (K : PySem.W.Frag) (XE : Str → Hp → Prop) (f : SA) : TE := fun σ H Q => ∃ G ρ W F, Rel K G ρ W σ F H ∧
  Pg XE G (f ρ W) fun ds W' => ∀ p vs F' H', Same F F' → Rel K G ρ W' σ F' H' → Fresh G p → H' p = some (.lst vs) → F' p = none → DqAll K F' vs ds → Q (.ref p) H'
def tT (K : PySem.W.Frag) (XE : Str → Hp → Prop) (f : SB) : TT := fun σ H Q => ∃ G ρ W F, Rel K G ρ W σ F H ∧
  Pg XE G (f ρ W) fun b W' => ∀ F' H', Same F F' → Rel K G ρ W' σ F' H' → Q b H'
def tA (K : PySem.W.Frag) (XE : Str → Hp → Prop) (f : SA) : TA := fun σ H Q => ∃ G ρ W F, Rel K G ρ W σ F H ∧
  Pg XE G (f ρ W) fun ds W' => ∀ vs F' H', Same F F' → Rel K G ρ W' σ F' H' → DqAll K F' vs ds → Q vs H'
end Sx
namespace L2
open PySem PySem.Spec PyProof.Rows Sx
section
variable {X : Cx} {e : Expr} {es : List Expr} {st : Stmt} {sts : List Stmt}
theorem PE.weak {t t' : TE} (h : PE X e t) (w : ∀ σ H Q, t' σ H Q → t σ H Q) : PE X e t' := ⟨fun pins s σ H Q I hq => h.run pins s σ H Q I (w σ H Q hq)⟩
theorem PT.weak {t t' : TT} (h : PT X e t) (w : ∀ σ H Q, t' σ H Q → t σ H Q) : PT X e t' := ⟨fun pins s σ H Q I hq => h.run pins s σ H Q I (w σ H Q hq)⟩
theorem PW.weak {t t' : TT} (h : PW X e t) (w : ∀ σ H Q, t' σ H Q → t σ H Q) : PW X e t' := ⟨fun wh pins s σ H Q I hq => h.run wh pins s σ H Q I (w σ H Q hq)⟩
theorem PA.weak {t t' : TA} (h : PA X es t) (w : ∀ σ H Q, t' σ H Q → t σ H Q) : PA X es t' := ⟨fun pos pins s σ H Q I hq => h.run pos pins s σ H Q I (w σ H Q hq)⟩
theorem PS.weak {t t' : TS} (h : PS X st t) (w : ∀ D σ H, t' D σ H → t D σ H) : PS X st t' := ⟨fun pins s σ H D I hq => h.run pins s σ H D I (w D σ H hq)⟩
theorem PSs.weak {t t' : TS} (h : PSs X sts t) (w : ∀ D σ H, t' D σ H → t D σ H) : PSs X sts t' := ⟨fun pins s σ H D I hq => h.run pins s σ H D I (w D σ H hq)⟩
end
end L2
namespace Sx
open PySem PySem.Spec PyProof.Rows L2
end Sx

namespace Sx
open PySem PySem.Spec PyProof.Rows L2

/-! ### what is read off a value -/
section
variable {K : PySem.W.Frag} {F H : Hp} {v : V}
theorem RB.int {i : Int} (h : RB K F H v (.int i)) : v = .int i := by
  rcases h with h | ⟨_, _, _, _, e, _⟩
  · cases h; rfl
  · cases e
theorem RB.bl {i : Bool} (h : RB K F H v (.bool i)) : v = .bl i := by
  rcases h with h | ⟨_, _, _, _, e, _⟩
  · cases h; rfl
  · cases e
theorem RB.str {i : Str} (h : RB K F H v (.str i)) : v = .str i := by
  rcases h with h | ⟨_, _, _, _, e, _⟩
  · cases h; rfl
  · cases e
theorem RB.non (h : RB K F H v .none) : v = .non := by
  rcases h with h | ⟨_, _, _, _, e, _⟩
  · cases h; rfl
  · cases e
theorem RB.tup {ds : List Dt} (h : RB K F H v (.tuple ds)) : ∃ a vs, v = .ref a ∧ SqT K F a vs ∧ DqAll K F vs ds := by
  rcases h with h | ⟨_, _, _, _, e, _⟩
  · cases h with
    | tup a b => exact ⟨_, _, rfl, a, b⟩
  · cases e
theorem RB.tupP {ds : List Dt} (h : RB K F H v (.tuple ds)) : ∃ a vs, v = .ref a ∧ SqT K F a vs ∧ DqAll K F vs ds ∧ PlT K F a vs := by
  rcases h with h | ⟨_, _, _, _, e, _⟩
  · cases h with
    | tup a b c => exact ⟨_, _, rfl, a, b, c⟩
  · cases e
theorem RB.lst {ds : List Dt} (h : RB K F H v (.list ds)) (s : Same F H) : ∃ a vs, v = .ref a ∧ SqL K H a vs ∧ DqAll K F vs ds := by
  rcases h with h | ⟨p, vs, ds', e1, e, hp, ha⟩
  · cases h with
    | lst a b => exact ⟨_, _, rfl, s.seq a, b⟩
  · cases e
    exact ⟨p, vs, e1, .inl (.inl hp), ha⟩
theorem RB.dp {d : Dt} (h : RB K F H v d) (s : Same F H) (c : SeqAt.shaped d = true) : Dp K H v d := by
  have c := SeqAt.canLay_of_shaped c
  rcases h with h | ⟨p, vs, ds', e1, e, hp, ha⟩
  · exact dq_dp s d v c h
  · subst e1 e
    exact .lst (.inl (.inl hp)) (dqAll_dp s _ _ (by simpa [PyData.canLay0] using c) ha)
end
/-- an operation over two values read as data -/
def RD2 (K : PySem.W.Frag) (g : Dt → Dt → Option Dt) : R2 := fun x y H Q => ∃ F d e z, Same F H ∧ RB K F H x d ∧ RB K F H y e ∧ g d e = some z ∧ ∀ v F' H', Gr0 K F H F' H' → Dq K F' v z → Q v H'
def RD1 (K : PySem.W.Frag) (g : Dt → Option Dt) : V → Hp → VK → Prop := fun x H Q => ∃ F d z, Same F H ∧ RB K F H x d ∧ g d = some z ∧ ∀ v F' H', Gr0 K F H F' H' → Dq K F' v z → Q v H'
inductive RBs (K : PySem.W.Frag) (F H : Hp) : List V → List Dt → Prop
  | nil : RBs K F H [] []
  | cons {v : V} {vs : List V} {d : Dt} {ds : List Dt} : RB K F H v d → RBs K F H vs ds → RBs K F H (v :: vs) (d :: ds)
/-- a call over values read as data -/
def RDC (K : PySem.W.Frag) (g : List Dt → Option Dt) : List V → Hp → VK → Prop := fun xs H Q => ∃ F ds z, Same F H ∧ RBs K F H xs ds ∧ g ds = some z ∧ ∀ v F' H', Gr0 K F H F' H' → Dq K F' v z → Q v H'
/-- .. that gives a new list -/
def RL2 (K : PySem.W.Frag) (g : Dt → Dt → Option (List Dt)) : R2 := fun x y H Q => ∃ F d e zs, Same F H ∧ RB K F H x d ∧ RB K F H y e ∧ g d e = some zs ∧ ∀ p vs, H p = none → DqAll K F vs zs → Q (.ref p) (upd H p (.lst vs))
def RLC (K : PySem.W.Frag) (g : List Dt → Option (List Dt)) : List V → Hp → VK → Prop := fun xs H Q => ∃ F ds zs, Same F H ∧ RBs K F H xs ds ∧ g ds = some zs ∧ ∀ p vs, H p = none → DqAll K F vs zs → Q (.ref p) (upd H p (.lst vs))
section
variable {K : PySem.W.Frag} {F H : Hp} {Q : VK}
/-- the ends: a value that stands by itself, a new tuple, a new list -/
theorem end_int {z : Dt} {i : Int} (s : Same F H) (e : z = .int i) (q : ∀ v F' H', Gr0 K F H F' H' → Dq K F' v z → Q v H') : Q (.int i) H := by subst e; exact q _ F H (.refl s) (.int i)
theorem end_bl {z : Dt} {i : Bool} (s : Same F H) (e : z = .bool i) (q : ∀ v F' H', Gr0 K F H F' H' → Dq K F' v z → Q v H') : Q (.bl i) H := by subst e; exact q _ F H (.refl s) (.bl i)
theorem end_str {z : Dt} {i : Str} (s : Same F H) (e : z = .str i) (q : ∀ v F' H', Gr0 K F H F' H' → Dq K F' v z → Q v H') : Q (.str i) H := by subst e; exact q _ F H (.refl s) (.str i)
theorem end_tup {z : Dt} {vs : List V} {ds : List Dt} {p : Addr} {o : Obj} (ho : o.dict = none) (s : Same F H) (e : z = .tuple ds) (ha : DqAll K F vs ds) (np : H p = none) (q : ∀ v F' H', Gr0 K F H F' H' → Dq K F' v z → Q v H') : Q (.ref p) (upd H p (.frz o (.tup vs))) := by
  subst e
  have g : Gr0 K F H (upd F p (.frz o (.tup vs))) (upd H p (.frz o (.tup vs))) := .new s np
  exact q _ _ _ g (.tup (.inl (.inr ⟨o, upd_same⟩)) (ha.mono g.ff) (.inl ⟨o, upd_same, ho⟩))
theorem end_lst {z : Dt} {vs : List V} {ds : List Dt} {p : Addr} (s : Same F H) (e : z = .list ds) (ha : DqAll K F vs ds) (np : H p = none) (q : ∀ v F' H', Gr0 K F H F' H' → Dq K F' v z → Q v H') : Q (.ref p) (upd H p (.lst vs)) := by
  subst e
  have g : Gr0 K F H (upd F p (.lst vs)) (upd H p (.lst vs)) := .new s np
  exact q _ _ _ g (.lst (.inl (.inl upd_same)) (ha.mono g.ff))
end
section
variable {X : Cx}
theorem slM {pins : List (Addr × Obj)} {σ : L2.St} {H : Hp} {s : Shared} {l : Addr} {xs : List V} (I : Inv X pins σ H s) (hH : SqL X.K H l xs) : xs.length ≤ sizeLine ∧ ∃ (its : List Value) (n : Nat) (sl : Array (Option Value)), Vals xs its ∧ xs.length = its.length ∧ s.heap.get? l = some { cls := .type "list", dict := none, data := .seq its.toArray n, slots := sl } := by
  obtain ⟨its, r, ⟨⟨cls, dd, data, sl⟩, n, e, hc, hd, hs⟩, z⟩ := I.list hH
  simp only at hc hd hs
  subst hc hd hs
  exact ⟨z, its, n, sl, r, r.length, e⟩
/-! lists: +, * -/
def rCatR (K : PySem.W.Frag) : R2 := fun x y H Q => ∃ l b xs zs, x = .ref l ∧ y = .ref b ∧ SqL K H l xs ∧ SqL K H b zs ∧ xs.length + zs.length ≤ sizeLine ∧ ∀ p, H p = none → Q (.ref p) (upd H p (.lst (xs ++ zs)))
theorem op_catR : OpR X (binaryOp .Add) (rCatR X.K) := by
  intro pins s σ H x y v u Q I rx ry h
  obtain ⟨l, b, xs, zs, rfl, rfl, hH, hB, hz, q⟩ := h
  cases rx
  cases ry
  obtain ⟨z, its, n, sl, r, hl, e⟩ := slM I hH
  obtain ⟨z2, its2, n2, sl2, r2, hl2, e2⟩ := slM I hB
  have ea : its.toArray ++ its2.toArray = (its ++ its2).toArray := by simp
  refine concat_meets ⟨_, e, rfl⟩ ⟨_, e2, rfl⟩ noFill_list_add seq_list_add PySem.F.slot_list_add PySem.F.entry_list_add (PySem.F.args_list_add_2 _ _) (list_addW l b its.toArray its2.toArray n n2 none none sl sl2 (by rw [List.size_toArray, List.size_toArray]; omega)) ⟨e, e2, ?_⟩
  rw [ea]
  exact ⟨.ref _, _, I.lnew (t' := s.toks) (r.append r2) (by rw [List.length_append]; omega), rfl, q _ I.fresh⟩
theorem int_rmul_listW (a : Int) (t : Tok) (l : Addr) (items : Array Value) (n : Nat) (dd : Option Addr) (sl : Array (Option Value)) :
    Meets (Builtin.«int.__rmul__» ⟨[.int a t, .ref l], []⟩) (fun _ R s => s.heap.get? l = some { cls := .type "list", dict := dd, data := .seq items n, slots := sl } ∧ R (.ok (.ret Value.notImplemented)) s) :=
  .of_wp fun prog w A R s h => by obtain ⟨hp, g, d, tk, os⟩ := s; obtain ⟨hl, h⟩ := h; wp_walk using wpAny_loadPart' hl; exact ⟨_, rfl, h⟩
theorem list_mulW (l : Addr) (items : Array Value) (n : Nat) (dd : Option Addr) (sl : Array (Option Value)) (x : Int) (u : Tok) (hc0 : ¬(!Builtin.List.listFitsIndex x) = true) (hc1 : ¬items.size * x.toNat > (2 ^ 63 - 1) / 8) (hc2 : ¬Builtin.List.listTooLong (items.size * x.toNat) = true) :
    Meets (Builtin.«list.__mul__» ⟨[.ref l, .int x u], []⟩) (fun _ R s => s.heap.get? l = some { cls := .type "list", dict := dd, data := .seq items n, slots := sl } ∧ R (.ok (.ret (Value.ref s.heap.objs.size))) { s with heap := s.heap.push { cls := Value.type "list", data := Data.seq (List.foldl (fun x1 x2 => x1 ++ x2) #[] (List.replicate (if items.isEmpty = true then 0 else x.toNat) items)) }, toks := s.toks }) :=
  .of_wp fun prog w A R s h => by
    obtain ⟨hp, g, d, tk, os⟩ := s; obtain ⟨hl, h⟩ := h
    have hsz := AutoListH.joined_fits hc2
    have f1 := AutoSeq1.idx_int
    wp_walk using wpAny_loadPart' hl
    refine wpAny_ite_false (decide_eq_false (Nat.not_lt.mpr hsz)) ?_
    wp_walk using wpAny_loadPart' hl
    exact ⟨_, rfl, h⟩
def rRepR (K : PySem.W.Frag) : R2 := fun x y H Q => ∃ l k xs, x = .ref l ∧ y = .int k ∧ SqL K H l xs ∧ -(2 ^ 63) ≤ k ∧ k < 2 ^ 63 ∧ xs.length * k.toNat ≤ sizeLine ∧
  ∀ p, H p = none → Q (.ref p) (upd H p (.lst (List.replicate k.toNat xs).flatten))
theorem op_repR : OpR X (binaryOp .Mult) (rRepR X.K) := by
  intro pins s σ H x y v u Q I rx ry h
  obtain ⟨l, k, xs, rfl, rfl, hH, h1, h2, hz, q⟩ := h
  cases rx
  obtain ⟨t, rfl⟩ := ry
  obtain ⟨z, its, n, sl, r, hl, e⟩ := slM I hH
  have hlen : its.toArray.size * k.toNat ≤ sizeLine := by rw [List.size_toArray, ← hl]; exact hz
  have hcap : ¬ its.toArray.size * k.toNat > (2 ^ 63 - 1) / 8 := by
    have : (sizeLine : Nat) ≤ (2 ^ 63 - 1) / 8 := by decide
    omega
  have hfit : ¬ (!Builtin.List.listFitsIndex k) = true := by
    rw [fitsIndex_both h1 h2]
    exact Bool.false_ne_true
  have hlong : ¬ Builtin.List.listTooLong (its.toArray.size * k.toNat) = true := by
    rw [notLongL hlen]
    exact Bool.false_ne_true
  have hnew : List.foldl (fun x1 x2 => x1 ++ x2) #[] (List.replicate (if its.toArray.isEmpty = true then 0 else k.toNat) its.toArray) = (List.replicate k.toNat its).flatten.toArray := by
    have f0 : ∀ m : Nat, List.foldl (fun x1 x2 => x1 ++ x2) #[] (List.replicate m its.toArray) = (List.replicate m its).flatten.toArray := fun m => by
      have := foldl_rep its m []
      rw [List.nil_append] at this
      exact this
    rw [f0]
    cases its with
    | nil => simp
    | cons a r' => rw [if_neg (by simp)]
  refine wpAny_binaryOp_repeat_ref (T := "list") (U := "int") (by decide) ⟨_, e, rfl⟩ (fun s' => typeIs_int s' k t) noFill_list_mul F.fills_int_mul F.slot_int_rmul repeat_list F.slot_int_index.lookup
    (call_meets F.slot_int_rmul (typeIs_int s k t) F.entry_int_rmul (F.args_int_rmul_2 _ _) (int_rmul_listW k t l its.toArray n none sl)
      ⟨e, rfl, ⟨_, e, rfl⟩, call_meets F.slot_list_mul ⟨_, e, rfl⟩ F.entry_list_mul (F.args_list_mul_2 _ _) (list_mulW l its.toArray n none sl k t hfit hcap hlong) ⟨e, ?_⟩⟩)
  rw [hnew]
  exact ⟨.ref _, _, I.lnew (t' := s.toks) (r.rep k.toNat) (by rw [PyProof.Rows.lm_len_rep_flat, Nat.mul_comm]; exact hz), rfl, q _ I.fresh⟩
/-- a tuple times 1 is itself -/
theorem tuple_mul1 (l : Addr) (items : Array Value) (n : Nat) (dd : Option Addr) (sl : Array (Option Value)) (u : Tok) :
    Meets (Builtin.«tuple.__mul__» ⟨[.ref l, .int 1 u], []⟩) (fun _ R s => s.heap.get? l = some { cls := .type "tuple", dict := dd, data := .seq items n, slots := sl } ∧ R (.ok (.ret (Value.ref l))) s) :=
  .of_wp fun prog w A R s h => by
    obtain ⟨hp, g, d, tk, os⟩ := s
    obtain ⟨hl, h⟩ := h
    have f1 := AutoSeq1.idx_int
    have c1 : (items.isEmpty || (1 : Int) == 1) = true := by simp
    wp_walk using wpAny_loadPart' hl
    repeat (first
      | (refine wpAny_ite_false (by decide) ?_; wp_walk using wpAny_loadPart' hl)
      | (refine wpAny_ite_true (by simp) ?_; wp_walk using wpAny_loadPart' hl))
    exact ⟨_, rfl, h⟩
end
/-! ### new tuples: their objects are known -/
section
variable {X : Cx}
abbrev tupO (its : List Value) : Obj := { cls := .type "tuple", data := .seq its.toArray }
theorem tup_laid {pins : List (Addr × Obj)} {σ : L2.St} {H : Hp} {s : Shared} {xs : List V} {its : List Value} {h' : Heap} {t' : Nat} (I : Inv X pins σ H { s with heap := h' }) (r : Vals xs its) (hz : xs.length ≤ sizeLine) :
    Inv X pins σ (upd H h'.objs.size (.frz (tupO its) (.tup xs))) { s with heap := h'.push (tupO its), toks := t' } :=
  I.laid (t' := t') (o := .frz (tupO its) (.tup xs)) (fun b o e => Heap.get?_push_of_some _ e) (Nat.le_refl _) ⟨Heap.get?_push_size _ rfl, hz, its, r, IsTup.new _ _⟩
def rCatP (K : PySem.W.Frag) : R2 := fun x y H Q => ∃ a b xs ys, x = .ref a ∧ y = .ref b ∧ SqT K H a xs ∧ SqT K H b ys ∧ xs.length + ys.length ≤ sizeLine ∧
  (xs = [] → Q (.ref b) H) ∧ (xs ≠ [] → ys = [] → Q (.ref a) H) ∧ (xs ≠ [] → ys ≠ [] → ∀ p o, H p = none → o.dict = none → Q (.ref p) (upd H p (.frz o (.tup (xs ++ ys)))))
theorem op_catP : OpR X (binaryOp .Add) (rCatP X.K) := by
  intro pins s σ H x y v u Q I rx ry h
  obtain ⟨a, b, xs, ys, rfl, rfl, ha, hb, hz, q0, q1, q2⟩ := h
  cases rx
  cases ry
  obtain ⟨its, r1, p1, _⟩ := I.tuple ha
  obtain ⟨its2, r2, p2, _⟩ := I.tuple hb
  by_cases hx : xs = []
  · subst hx
    cases r1
    exact cat_tup0 p1 p2 ⟨.ref b, H, I, rfl, q0 rfl⟩
  · refine HT.cat_tup p1 p2 (fun z => hx (r1.nil_iff.mp z)) (fun z => ⟨.ref a, H, I, rfl, q1 hx (r2.nil_iff.mp z)⟩) (fun z => ?_) (by rw [← r1.length, ← r2.length]; exact hz)
    exact ⟨.ref s.heap.objs.size, _, tup_laid (t' := s.toks) I (r1.append r2) (by rw [List.length_append]; exact hz), rfl, q2 hx (fun w => z (r2.nil_iff.mpr w)) _ _ (I.hok.fresh (Nat.le_refl _)) rfl⟩
theorem call_tupP : CallR X (.type "tuple") (fun xs H Q => ∃ p ys, xs = [.ref p] ∧ ((SqL X.K H p ys ∧ ∀ l o, H l = none → o.dict = none → Q (.ref l) (upd H l (.frz o (.tup ys)))) ∨ (SqT X.K H p ys ∧ Q (.ref p) H))) := by
  intro pins s σ H xs us Q I r h
  obtain ⟨p, ys, rfl, h⟩ := h
  obtain ⟨u, rfl, rx⟩ := vals1 r
  cases rx
  rcases h with ⟨hq, q⟩ | ⟨hq, q⟩
  · obtain ⟨its, r', pl, hz⟩ := I.list hq
    have hlen := r'.length
    refine call_tuple_list pl.isList (fun h' kp => ?_) (by simp only [List.size_toArray] <;> omega)
    have I1 : Inv X pins σ H { s with heap := h' } := I.kept (t' := s.toks) kp
    exact ⟨.ref h'.objs.size, _, tup_laid (t' := s.toks) I1 r' hz, rfl, q _ _ (I1.hok.fresh (Nat.le_refl _)) rfl⟩
  · obtain ⟨its, r', pl, hz⟩ := I.tuple hq
    exact call_tuple_same pl ⟨.ref p, H, I, rfl, q⟩
def rSlP (K : PySem.W.Frag) : V → Option Int → Option Int → Hp → VK → Prop := fun x lo hi H Q => ∃ a xs, x = .ref a ∧ SqT K H a xs ∧
  (HT.sIx xs.length 0 lo = 0 ∧ HT.sIx xs.length xs.length hi = xs.length → Q (.ref a) H) ∧ (¬ (HT.sIx xs.length 0 lo = 0 ∧ HT.sIx xs.length xs.length hi = xs.length) → ∀ p o, H p = none → o.dict = none → Q (.ref p) (upd H p (.frz o (.tup (cutV xs lo hi)))))
theorem sl_tupP : SlR X (rSlP X.K) := by
  intro pins s σ H x v vl vu lo hi sl Q I rx hs pl pu h
  obtain ⟨a, xs, rfl, hx, q1, q2⟩ := h
  by_cases hw : HT.sIx xs.length 0 lo = 0 ∧ HT.sIx xs.length xs.length hi = xs.length
  · exact sl_tupA pins s σ H _ v vl vu lo hi sl Q I rx hs pl pu ⟨a, xs, rfl, hx, q1, fun z => absurd hw z⟩
  · cases rx
    obtain ⟨its, r, ht, hz⟩ := I.tuple hx
    have hlen : its.toArray.size = xs.length := by rw [List.size_toArray]; exact r.length.symm
    refine ⟨"tuple", _, PyProof.Rows.slot_tuple_getitem.lookup, ht.typeIs, ?_⟩
    refine HT.getItem_tuple_cut ht hs pl pu (by rw [hlen]; exact hw) ?_ (by rw [hlen]; exact hz)
    rw [hlen]
    exact ⟨.ref s.heap.objs.size, _, tup_laid (t' := s.toks) I ((r.drop (HT.sIx xs.length 0 lo)).take (HT.sIx xs.length xs.length hi - HT.sIx xs.length 0 lo)) (Nat.le_trans (cutV_length xs lo hi) hz), rfl, q2 hw _ _ (I.hok.fresh (Nat.le_refl _)) rfl⟩
def rRepP (K : PySem.W.Frag) : R2 := fun x y H Q => ∃ l k xs, x = .ref l ∧ y = .int k ∧ SqT K H l xs ∧ xs ≠ [] ∧ 2 ≤ k ∧ k ≤ 1000 ∧ xs.length ≤ 1000 ∧ ∀ p o, H p = none → o.dict = none → Q (.ref p) (upd H p (.frz o (.tup (List.replicate k.toNat xs).flatten)))
theorem op_repP : OpR X (binaryOp .Mult) (rRepP X.K) := by
  intro pins s σ H x y v u Q I rx ry h
  obtain ⟨l, k, xs, rfl, rfl, hT, hne, h1, h2, hz, q⟩ := h
  cases rx
  obtain ⟨t, rfl⟩ := ry
  obtain ⟨its, r, ⟨⟨cls, dd, data, sl⟩, ho, hc, n, hd⟩, hs⟩ := I.tuple hT
  simp only at hc hd
  subst hc hd
  have hle : its.length = xs.length := r.length.symm
  have hi : its.toArray.isEmpty = false := by
    cases its with
    | nil => exact absurd (List.eq_nil_of_length_eq_zero hle.symm) hne
    | cons a b => rfl
  have hsz0 : its.toArray.size = xs.length := by rw [List.size_toArray, hle]
  have hm : ((its.toArray.size : Nat) : Int) * k ≤ 1000000 := by
    rw [hsz0]
    have a1 : ((xs.length : Nat) : Int) * k ≤ 1000 * k := Int.mul_le_mul_of_nonneg_right (by omega) (by omega)
    omega
  have flen : (List.replicate k.toNat its).flatten.length ≤ sizeLine := by
    rw [PyProof.Rows.lm_len_rep_flat, hle, sizeLine_eq]
    have a1 : k.toNat * xs.length ≤ 1000 * 1000 := Nat.mul_le_mul (by omega) hz
    omega
  have c0 : (decide (k < -(2 ^ 63)) || decide (k ≥ 2 ^ 63)) = false := by
    rw [decide_eq_false (by omega), decide_eq_false (by omega)] <;> rfl
  have c1 : (its.toArray.isEmpty || k == 1) = false := by
    rw [hi, Bool.false_or]
    exact beq_eq_false_iff_ne.mpr (by omega)
  have c2 : (decide (k ≤ 0) || its.toArray.isEmpty) = false := by
    rw [hi, Bool.or_false]
    exact decide_eq_false (by omega)
  have c4 : Builtin.Tuple.tupleTooMany (((its.toArray.size : Nat) : Int) * k) = false := by
    unfold Builtin.Tuple.tupleTooMany
    rw [sizeLine_eq]
    exact decide_eq_false (by omega)
  refine wpAny_binaryOp_repeat_ref (T := "tuple") (U := "int") (by decide) ⟨_, ho, rfl⟩ (fun s' => typeIs_int s' k t) noFill_tuple_mul PySem.F.fills_int_mul PySem.F.slot_int_rmul repeat_tuple PySem.F.slot_int_index.lookup
    (call_meets PySem.F.slot_int_rmul (typeIs_int s k t) PySem.F.entry_int_rmul (PySem.F.args_int_rmul_2 _ _) (int_rmul_tuple k t l its.toArray n dd sl)
      ⟨ho, rfl, ⟨_, ho, rfl⟩, call_meets PySem.F.slot_tuple_mul ⟨_, ho, rfl⟩ PySem.F.entry_tuple_mul (PySem.F.args_tuple_mul_2 _ _) (tuple_mulW l its.toArray n dd sl k t c0 c1 c2 (by omega) c4 (by rw [size_rep, List.size_toArray]; exact flen)) ⟨ho, ?_⟩⟩)
  rw [size_rep]
  exact ⟨.ref s.heap.objs.size, _, tup_laid (t' := s.toks) I (r.rep k.toNat) (by rw [PyProof.Rows.lm_len_rep_flat, sizeLine_eq]; have a1 : k.toNat * xs.length ≤ 1000 * 1000 := Nat.mul_le_mul (by omega) hz; omega), rfl, q _ _ (I.hok.fresh (Nat.le_refl _)) rfl⟩
def tTupP (t : TA) : TE := fun σ H Q => t σ H fun xs H1 => xs.length ≤ sizeLine ∧ ∀ p o, H1 p = none → o.dict = none → Q (.ref p) (upd H1 p (.frz o (.tup xs)))
theorem pe_tupP {es : List Expr} {t : TA} {pos : Pos} {x1} (h : PA X es t) : PE X (.Tuple es x1 pos) (tTupP t) := by
  refine ⟨fun pins s σ H Q I hq => ?_⟩
  refine wpAny_Tuple_spliced (thn (h.run pos pins s σ H _ I hq) fun us s1 ⟨xs, H1, I1, r, z, q⟩ => ⟨by rw [← r.length]; exact z, ?_⟩)
  exact ⟨.ref s1.heap.objs.size, _, tup_laid (t' := s1.toks) I1 r z, rfl, q _ _ (I1.hok.fresh (Nat.le_refl _)) rfl⟩
end
end Sx

namespace Sx
open PySem PySem.Spec PyProof.Rows L2

/-! ### operations over data -/
def mulOk (i j : Int) : Bool := decide (i.natAbs.log2 + j.natAbs.log2 < 1000000)
def addD : Dt → Dt → Option Dt
  | .int a, .int b => some (.int (a + b))
  | .str a, .str b => if a.length + b.length ≤ 100000 then some (.str (a ++ b)) else none
  | .tuple a, .tuple b => if a.length + b.length ≤ 100000 then some (.tuple (a ++ b)) else none
  | .list a, .list b => if a.length + b.length ≤ 100000 then some (.list (a ++ b)) else none
  | _, _ => none
def subD : Dt → Dt → Option Dt
  | .int a, .int b => some (.int (a - b))
  | _, _ => none
def mulD : Dt → Dt → Option Dt
  | .int a, .int b => if mulOk a b then some (.int (a * b)) else none
  | .list a, .int k => if k ≤ 1000 ∧ -1000 ≤ k ∧ a.length ≤ 1000 then some (.list (List.replicate k.toNat a).flatten) else none
  | .tuple a, .int k => if 1 ≤ k ∧ k ≤ 1000 ∧ a.length ≤ 1000 ∧ a ≠ [] then some (.tuple (List.replicate k.toNat a).flatten) else none
  | _, _ => none
def fdivD : Dt → Dt → Option Dt
  | .int a, .int b => if 0 < b ∧ b.natAbs.log2 < 9000 then some (.int (a / b)) else none
  | _, _ => none
def modD : Dt → Dt → Option Dt
  | .int a, .int b => if 0 < b then some (.int (a % b)) else none
  | _, _ => none
def powD : Dt → Dt → Option Dt
  | .int a, .int b => if 0 ≤ b ∧ b ≤ 1000000 ∧ a.natAbs < 2 ^ 64 then some (.int (a ^ b.toNat)) else none
  | _, _ => none
def eqD (d e : Dt) : Option Dt := if SeqAt.shaped d && SeqAt.shaped e then some (.bool (PyData.eqv d e)) else none
def neD (d e : Dt) : Option Dt := if SeqAt.shaped d && SeqAt.shaped e then some (.bool (!PyData.eqv d e)) else none
def cmpD (p : Int → Int → Bool) : Dt → Dt → Option Dt
  | .int a, .int b => some (.bool (p a b))
  | _, _ => none
abbrev ltD := cmpD fun a b => decide (a < b)
abbrev leD := cmpD fun a b => decide (a ≤ b)
abbrev gtD := cmpD fun a b => decide (b < a)
abbrev geD := cmpD fun a b => decide (b ≤ a)
def flatD : Dt → Bool
  | .none => true
  | .bool _ => true
  | .int _ => true
  | .str _ => true
  | _ => false
/-- is x one of the items -/
def inB (x : Dt) (ds : List Dt) : Bool := ds.any fun z => PyData.eqv z x
def inD' (neg : Bool) : Dt → Dt → Option Dt
  | x, .list ds => if SeqAt.shaped x && SeqAt.shaped (.list ds) then some (.bool (if neg then !inB x ds else inB x ds)) else none
  | x, .tuple ds => if flatD x && ds.all flatD then some (.bool (if neg then !inB x ds else inB x ds)) else none
  | _, _ => none
abbrev inD := inD' false
def isNone : Dt → Bool
  | .none => true
  | _ => false
/-- is None; is True, is False -/
def isD' (neg : Bool) : Dt → Dt → Option Dt
  | x, .none => some (.bool (if neg then !isNone x else isNone x))
  | .bool a, .bool b => some (.bool (if neg then !(a == b) else a == b))
  | _, _ => none
abbrev isD := isD' false
abbrev isNotD := isD' true
def atD (ds : List Dt) (i : Int) : Option Dt := atI ds i
def ixD : Dt → Dt → Option Dt
  | .tuple ds, .int i => atD ds i
  | .list ds, .int i => atD ds i
  | .str z, .int i => if z.length ≤ 100000 then (atI z.cps.toList i).map fun c => .str ⟨#[c]⟩ else none
  | _, _ => none
def negD : Dt → Option Dt
  | .int a => some (.int (-a))
  | _ => none

section
variable {X : Cx}
theorem sz5 {n : Nat} (h : n ≤ 100000) : n ≤ sizeLine := Nat.le_trans h (by decide)
theorem sz6 {n : Nat} (h : n ≤ 1000000) : n ≤ sizeLine := Nat.le_trans h (by decide)
theorem DqAll.nil_iff {K : PySem.W.Frag} {F : Hp} {vs : List V} {ds : List Dt} (h : DqAll K F vs ds) : vs = [] ↔ ds = [] := by
  cases h <;> simp
theorem op_addD : OpR X (binaryOp .Add) (RD2 X.K addD) := by
  intro pins s σ H x y v u Q I rx ry h
  obtain ⟨F, d, e, z, sm, hx, hy, hg, q⟩ := h
  cases d <;> cases e <;> simp only [addD] at hg <;> try (cases hg; done)
  · obtain rfl := hx.int
    obtain rfl := hy.int
    cases hg
    exact op_add pins s σ H _ _ v u Q I rx ry ⟨_, _, rfl, rfl, end_int sm rfl q⟩
  · obtain rfl := hx.str
    obtain rfl := hy.str
    split at hg
    · cases hg
      rename_i hl
      exact op_add_str pins s σ H _ _ v u Q I rx ry ⟨_, _, rfl, rfl, sz5 hl, end_str sm rfl q⟩
    · cases hg
  · obtain ⟨a, xs, rfl, ha, da⟩ := hx.lst sm
    obtain ⟨b, ys, rfl, hb, db⟩ := hy.lst sm
    split at hg
    · cases hg
      rename_i hl
      exact op_catR pins s σ H _ _ v u Q I rx ry ⟨a, b, xs, ys, rfl, rfl, ha, hb, sz5 (by rw [da.length, db.length]; exact hl), fun p np => end_lst sm rfl (da.append db) np q⟩
    · cases hg
  · obtain ⟨a, xs, rfl, ha, da, pa⟩ := hx.tupP
    obtain ⟨b, ys, rfl, hb, db, pb⟩ := hy.tupP
    split at hg
    · cases hg
      rename_i hl
      refine op_catP pins s σ H _ _ v u Q I rx ry ⟨a, b, xs, ys, rfl, rfl, sqT_mono sm ha, sqT_mono sm hb, sz5 (by rw [da.length, db.length]; exact hl), fun e => ?_, fun _ e => ?_, fun _ _ p o np ho => end_tup ho sm rfl (da.append db) np q⟩
      · rw [da.nil_iff] at e
        subst e
        exact q _ F H (.refl sm) (.tup hb db pb)
      · rw [db.nil_iff] at e
        subst e
        rw [List.append_nil] at q
        exact q _ F H (.refl sm) (.tup ha da pa)
    · cases hg
theorem op_subD : OpR X (binaryOp .Sub) (RD2 X.K subD) := by
  intro pins s σ H x y v u Q I rx ry h
  obtain ⟨F, d, e, z, sm, hx, hy, hg, q⟩ := h
  cases d <;> cases e <;> simp only [subD] at hg <;> try (cases hg; done)
  obtain rfl := hx.int
  obtain rfl := hy.int
  cases hg
  exact op_sub pins s σ H _ _ v u Q I rx ry ⟨_, _, rfl, rfl, end_int sm rfl q⟩
theorem mulOk_iff {i j : Int} (h : mulOk i j = true) : CMulW i j := by
  unfold mulOk at h
  have h := of_decide_eq_true h
  exact h
theorem rep1 {α : Type} (xs : List α) : (List.replicate (1 : Int).toNat xs).flatten = xs := by simp
theorem op_mulD : OpR X (binaryOp .Mult) (RD2 X.K mulD) := by
  intro pins s σ H x y v u Q I rx ry h
  obtain ⟨F, d, e, z, sm, hx, hy, hg, q⟩ := h
  cases d <;> cases e <;> simp only [mulD] at hg <;> try (cases hg; done)
  · obtain rfl := hx.int
    obtain rfl := hy.int
    split at hg
    · cases hg
      rename_i hl
      exact op_mulW pins s σ H _ _ v u Q I rx ry ⟨_, _, rfl, rfl, (mulOk_iff hl), end_int sm rfl q⟩
    · cases hg
  · obtain ⟨a, xs, rfl, ha, da⟩ := hx.lst sm
    obtain rfl := hy.int
    split at hg
    · cases hg
      rename_i k hl
      refine op_repR pins s σ H _ _ v u Q I rx ry ⟨a, k, xs, rfl, rfl, ha, by omega, by omega, ?_, fun p np => end_lst sm rfl (da.rep _) np q⟩
      rw [da.length]
      exact sz6 (Nat.le_trans (Nat.mul_le_mul hl.2.2 (show k.toNat ≤ 1000 by omega)) (by decide))
    · cases hg
  · obtain ⟨a, xs, rfl, ha, da, pa⟩ := hx.tupP
    obtain rfl := hy.int
    split at hg
    · cases hg
      rename_i k hl
      obtain ⟨h1, h2, h3, h4⟩ := hl
      by_cases hk : k = 1
      · subst hk
        rw [rep1] at q
        cases rx
        obtain ⟨t, rfl⟩ := ry
        obtain ⟨its, r, ⟨⟨cls, dd, data, sl⟩, ho, hc, n, hd⟩, hs⟩ := I.tuple (sqT_mono sm ha)
        simp only at hc hd
        subst hc hd
        refine wpAny_binaryOp_repeat_ref (T := "tuple") (U := "int") (by decide) ⟨_, ho, rfl⟩ (fun s' => typeIs_int s' 1 t) noFill_tuple_mul PySem.F.fills_int_mul PySem.F.slot_int_rmul repeat_tuple PySem.F.slot_int_index.lookup
          (call_meets PySem.F.slot_int_rmul (typeIs_int s 1 t) PySem.F.entry_int_rmul (PySem.F.args_int_rmul_2 _ _) (int_rmul_tuple 1 t a its.toArray n dd sl)
            ⟨ho, rfl, ⟨_, ho, rfl⟩, call_meets PySem.F.slot_tuple_mul ⟨_, ho, rfl⟩ PySem.F.entry_tuple_mul (PySem.F.args_tuple_mul_2 _ _) (tuple_mul1 a its.toArray n dd sl t) ⟨ho, ?_⟩⟩)
        exact ⟨.ref a, H, I, rfl, q _ F H (.refl sm) (.tup ha da pa)⟩
      · exact op_repP pins s σ H _ _ v u Q I rx ry ⟨a, k, xs, rfl, rfl, sqT_mono sm ha, fun e => h4 (da.nil_iff.mp e), by omega, h2, by rw [da.length]; exact h3, fun p o np ho => end_tup ho sm rfl (da.rep _) np q⟩
    · cases hg
theorem op_fdivD : OpR X (binaryOp .FloorDiv) (RD2 X.K fdivD) := by
  intro pins s σ H x y v u Q I rx ry h
  obtain ⟨F, d, e, z, sm, hx, hy, hg, q⟩ := h
  cases d <;> cases e <;> simp only [fdivD] at hg <;> try (cases hg; done)
  obtain rfl := hx.int
  obtain rfl := hy.int
  split at hg
  · cases hg
    rename_i hl
    exact op_fdivW pins s σ H _ _ v u Q I rx ry ⟨_, _, rfl, rfl, hl, end_int sm rfl q⟩
  · cases hg
theorem op_modD : OpR X (binaryOp .Mod) (RD2 X.K modD) := by
  intro pins s σ H x y v u Q I rx ry h
  obtain ⟨F, d, e, z, sm, hx, hy, hg, q⟩ := h
  cases d <;> cases e <;> simp only [modD] at hg <;> try (cases hg; done)
  obtain rfl := hx.int
  obtain rfl := hy.int
  split at hg
  · cases hg
    rename_i hl
    exact op_mod pins s σ H _ _ v u Q I rx ry ⟨_, _, rfl, rfl, hl, end_int sm rfl q⟩
  · cases hg
theorem op_powD : OpR X (binaryOp .Pow) (RD2 X.K powD) := by
  intro pins s σ H x y v u Q I rx ry h
  obtain ⟨F, d, e, z, sm, hx, hy, hg, q⟩ := h
  cases d <;> cases e <;> simp only [powD] at hg <;> try (cases hg; done)
  obtain rfl := hx.int
  obtain rfl := hy.int
  split at hg
  · cases hg
    rename_i hl
    exact op_pow pins s σ H _ _ v u Q I rx ry ⟨_, _, rfl, rfl, hl, end_int sm rfl q⟩
  · cases hg
theorem op_eqQ (hu : X.A.units + 64 < cLine) : OpR X (compareOp .Eq) (RD2 X.K eqD) := by
  intro pins s σ H x y v u Q I rx ry h
  obtain ⟨F, d, e, z, sm, hx, hy, hg, q⟩ := h
  unfold eqD at hg
  split at hg
  · rename_i hs
    rw [Bool.and_eq_true] at hs
    cases hg
    exact op_eqD hu pins s σ H x y v u Q I rx ry ⟨d, e, hx.dp sm hs.1, hy.dp sm hs.2, hs.1, hs.2, end_bl sm rfl q⟩
  · cases hg
theorem op_neQ (hu : X.A.units + 64 < cLine) : OpR X (compareOp .NotEq) (RD2 X.K neD) := by
  intro pins s σ H x y v u Q I rx ry h
  obtain ⟨F, d, e, z, sm, hx, hy, hg, q⟩ := h
  unfold neD at hg
  split at hg
  · rename_i hs
    rw [Bool.and_eq_true] at hs
    cases hg
    exact op_neD hu pins s σ H x y v u Q I rx ry ⟨d, e, hx.dp sm hs.1, hy.dp sm hs.2, hs.1, hs.2, end_bl sm rfl q⟩
  · cases hg
theorem op_cmpD {op : CmpOp} {p : Int → Int → Bool} (ho : OpR X (compareOp op) (rI0 fun i j => .bl (p i j))) : OpR X (compareOp op) (RD2 X.K (cmpD p)) := by
  intro pins s σ H x y v u Q I rx ry h
  obtain ⟨F, d, e, z, sm, hx, hy, hg, q⟩ := h
  cases d <;> cases e <;> simp only [cmpD] at hg <;> try (cases hg; done)
  obtain rfl := hx.int
  obtain rfl := hy.int
  cases hg
  exact ho pins s σ H _ _ v u Q I rx ry ⟨_, _, rfl, rfl, end_bl sm rfl q⟩
theorem op_ltD : OpR X (compareOp .Lt) (RD2 X.K ltD) := op_cmpD op_lt
theorem op_leD : OpR X (compareOp .LtE) (RD2 X.K leD) := op_cmpD op_le
theorem op_gtD : OpR X (compareOp .Gt) (RD2 X.K gtD) := op_cmpD op_gt
theorem op_geD : OpR X (compareOp .GtE) (RD2 X.K geD) := op_cmpD op_ge
theorem flat_of {K : PySem.W.Frag} {F : Hp} {v : V} {d : Dt} (h : Dq K F v d) (f : flatD d = true) : flatV v = true := by
  cases h <;> first | rfl | cases f
theorem flats_of {K : PySem.W.Frag} {F : Hp} : ∀ {vs : List V} {ds : List Dt}, DqAll K F vs ds → ds.all flatD = true → vs.all flatV = true
  | _, _, .nil, _ => rfl
  | _, _, .cons h t, f => by
    rw [List.all_cons, Bool.and_eq_true] at f
    rw [List.all_cons, flat_of h f.1, flats_of t f.2]
    rfl
theorem eqv_flat {K : PySem.W.Frag} {F : Hp} {v u : V} {d e : Dt} (h : Dq K F v d) (g : Dq K F u e) (f : flatD d = true) (f' : flatD e = true) : eqV v u = PyData.eqv d e := by
  cases h <;> first | (cases f; done) | (cases g <;> first | (cases f'; done) | rfl | simp [eqV, PyData.eqv])
theorem inV_of {K : PySem.W.Frag} {F : Hp} {u : V} {e : Dt} (g : Dq K F u e) (f' : flatD e = true) : ∀ {vs : List V} {ds : List Dt}, DqAll K F vs ds → ds.all flatD = true → inV u vs = inB e ds
  | _, _, .nil, _ => rfl
  | _, _, .cons h t, f => by
    rw [List.all_cons, Bool.and_eq_true] at f
    unfold inV inB
    rw [List.any_cons, List.any_cons, eqv_flat h g f.1 f']
    have := inV_of g f' t f.2
    unfold inV inB at this
    rw [this]
theorem RB.flat {K : PySem.W.Frag} {F H : Hp} {v : V} {d : Dt} (h : RB K F H v d) (f : flatD d = true) : Dq K F v d := by
  rcases h with h | ⟨_, _, _, _, e, _⟩
  · exact h
  · subst e; cases f
theorem op_inQ (hu : X.A.units + 65 < cLine) : OpR X (compareOp .In) (RD2 X.K inD) := by
  intro pins s σ H x y v u Q I rx ry h
  obtain ⟨F, d, e, z, sm, hx, hy, hg, q⟩ := h
  cases e <;> simp only [inD'] at hg <;> try (cases hg; done)
  · split at hg
    · rename_i hs
      rw [Bool.and_eq_true] at hs
      cases hg
      exact op_inD hu pins s σ H x y v u Q I rx ry ⟨d, _, hx.dp sm hs.1, hy.dp sm hs.2, hs.1, hs.2, end_bl sm rfl q⟩
    · cases hg
  · split at hg
    · rename_i hs
      rw [Bool.and_eq_true] at hs
      cases hg
      obtain ⟨b, ys, rfl, hb, db⟩ := hy.tup
      have hx' := hx.flat hs.1
      refine op_in_seq pins s σ H x _ v u Q I rx ry ⟨b, ys, rfl, .inr (sqT_mono sm hb), flat_of hx' hs.1, flats_of db hs.2, ?_⟩
      exact end_bl sm (by rw [inV_of hx' hs.1 db hs.2] <;> simp) q
    · cases hg
theorem RB.isNone {K : PySem.W.Frag} {F H : Hp} {v : V} {d : Dt} (h : RB K F H v d) : decide (v = V.non) = Sx.isNone d := by
  rcases h with h | ⟨_, _, _, e, rfl, _⟩
  · cases h <;> rfl
  · subst e; rfl
theorem op_isQ : OpR X (compareOp .Is) (RD2 X.K isD) := by
  intro pins s σ H x y v u Q I rx ry h
  obtain ⟨F, d, e, z, sm, hx, hy, hg, q⟩ := h
  cases e with
  | none =>
    have hg' : some (PyData.bool (isNone d)) = some z := by cases d <;> exact hg
    cases hg'
    obtain rfl := hy.non
    exact op_isN pins s σ H x _ v u Q I rx ry ⟨rfl, by rw [hx.isNone]; exact end_bl sm rfl q⟩
  | bool b =>
    cases d <;> simp only [isD'] at hg <;> try (cases hg; done)
    cases hg
    obtain rfl := hx.bl
    obtain rfl := hy.bl
    refine op_isBl pins s σ H _ _ v u Q I rx ry ⟨_, _, rfl, rfl, end_bl sm ?_ q⟩
    cases b <;> simp
  | _ => cases d <;> simp only [isD'] at hg <;> cases hg
theorem op_isNotQ : OpR X (compareOp .IsNot) (RD2 X.K isNotD) := by
  intro pins s σ H x y v u Q I rx ry h
  obtain ⟨F, d, e, z, sm, hx, hy, hg, q⟩ := h
  cases e with
  | none =>
    have hg' : some (PyData.bool (!isNone d)) = some z := by cases d <;> exact hg
    cases hg'
    obtain rfl := hy.non
    exact op_notN pins s σ H x _ v u Q I rx ry ⟨rfl, by rw [hx.isNone]; exact end_bl sm rfl q⟩
  | bool b =>
    cases d <;> simp only [isD'] at hg <;> try (cases hg; done)
    cases hg
    obtain rfl := hx.bl
    obtain rfl := hy.bl
    refine op_notBl pins s σ H _ _ v u Q I rx ry ⟨_, _, rfl, rfl, end_bl sm ?_ q⟩
    cases b <;> simp
  | _ => cases d <;> simp only [isD'] at hg <;> cases hg
theorem atI_all {K : PySem.W.Frag} {F : Hp} {vs : List V} {ds : List Dt} {i : Int} {d : Dt} (a : DqAll K F vs ds) (h : atD ds i = some d) : ∃ v, atI vs i = some v ∧ Dq K F v d := by
  unfold atD atI at h
  unfold atI
  rw [a.length]
  cases e : ixN ds.length i with
  | none => rw [e] at h; cases h
  | some j =>
    rw [e] at h
    obtain ⟨v, h1, h2⟩ := a.getD (show ds[j]? = some d from h)
    exact ⟨v, h1, h2⟩
theorem ix_D : IxR X (RD2 X.K ixD) := by
  intro ve se pins s σ H x y v u Q I rx ry h hss
  obtain ⟨F, d, e, z, sm, hx, hy, hg, q⟩ := h
  cases d <;> cases e <;> simp only [ixD] at hg <;> try (cases hg; done)
  · obtain rfl := hx.str
    obtain rfl := hy.int
    split at hg
    · rename_i z' i hl
      cases e : atI z'.cps.toList i with
      | none => rw [e] at hg; cases hg
      | some c =>
        rw [e] at hg
        cases hg
        exact ix_str ve se pins s σ H _ _ v u Q I rx ry ⟨_, _, c, rfl, rfl, sz5 hl, e, end_str sm rfl q⟩ hss
    · cases hg
  · obtain ⟨a, xs, rfl, ha, da⟩ := hx.lst sm
    obtain rfl := hy.int
    obtain ⟨w, h1, h2⟩ := atI_all da hg
    exact ix_list ve se pins s σ H _ _ v u Q I rx ry ⟨a, xs, _, w, rfl, rfl, ha, h1, q w F H (.refl sm) h2⟩ hss
  · obtain ⟨a, xs, rfl, ha, da⟩ := hx.tup
    obtain rfl := hy.int
    obtain ⟨w, h1, h2⟩ := atI_all da hg
    exact ix_tup ve se pins s σ H _ _ v u Q I rx ry ⟨a, xs, _, w, rfl, rfl, sqT_mono sm ha, h1, q w F H (.refl sm) h2⟩ hss
theorem un_negD : UnR X (unaryOp .USub) (RD1 X.K negD) := by
  intro pins s σ H x v Q I rx h
  obtain ⟨F, d, z, sm, hx, hg, q⟩ := h
  cases d <;> simp only [negD] at hg <;> try (cases hg; done)
  obtain rfl := hx.int
  cases hg
  exact un_neg pins s σ H _ v Q I rx ⟨_, rfl, end_int sm rfl q⟩
end
end Sx

namespace Sx
open PySem PySem.Spec PyProof.Rows L2

/-! ### built-ins over data -/
def intsOf : List Dt → Option (List Int)
  | [] => some []
  | .int i :: r => (intsOf r).map (i :: ·)
  | _ => none
def blsOf : List Dt → Option (List Bool)
  | [] => some []
  | .bool i :: r => (blsOf r).map (i :: ·)
  | _ => none
def lenD : List Dt → Option Dt
  | [.list ds] => some (.int ds.length)
  | [.tuple ds] => some (.int ds.length)
  | [.str z] => if z.length ≤ 100000 then some (.int z.length) else none
  | _ => none
def sumD : List Dt → Option Dt
  | [.list ds] => (intsOf ds).map fun ns => .int ns.sum
  | _ => none
def allD : List Dt → Option Dt
  | [.list ds] => (blsOf ds).map fun bs => .bool (bs.all id)
  | _ => none
def tupleD : List Dt → Option Dt
  | [.list ds] => some (.tuple ds)
  | [.tuple ds] => some (.tuple ds)
  | _ => none
def listL : List Dt → Option (List Dt)
  | [.list ds] => some ds
  | [.tuple ds] => some ds
  | _ => none
def absD : List Dt → Option Dt
  | [.int i] => some (.int (if i < 0 then -i else i))
  | _ => none
def intD : List Dt → Option Dt
  | [.int i] => some (.int i)
  | [.bool b] => some (.int (if b then 1 else 0))
  | _ => none
section
variable {K : PySem.W.Frag} {F H : Hp}
theorem RBs.one {vs : List V} {d : Dt} (h : RBs K F H vs [d]) : ∃ v, vs = [v] ∧ RB K F H v d := by
  cases h with
  | cons a b => cases b; exact ⟨_, rfl, a⟩
theorem ints_vs : ∀ {vs : List V} {ds : List Dt} {ns : List Int}, DqAll K F vs ds → intsOf ds = some ns → vs = ns.map V.int
  | _, _, ns, .nil, e => by cases e; rfl
  | _, _, ns, .cons (d := d) (ds := ds) h t, e => by
    cases h <;> simp only [intsOf] at e <;> try (cases e; done)
    cases q : intsOf ds with
    | none => rw [q] at e; cases e
    | some ms =>
      rw [q] at e
      cases e
      rw [ints_vs t q]
      rfl
theorem bls_vs : ∀ {vs : List V} {ds : List Dt} {ns : List Bool}, DqAll K F vs ds → blsOf ds = some ns → vs = ns.map V.bl
  | _, _, ns, .nil, e => by cases e; rfl
  | _, _, ns, .cons (d := d) (ds := ds) h t, e => by
    cases h <;> simp only [blsOf] at e <;> try (cases e; done)
    cases q : blsOf ds with
    | none => rw [q] at e; cases e
    | some ms =>
      rw [q] at e
      cases e
      rw [bls_vs t q]
      rfl
end
section
variable {X : Cx}
theorem cb_len : CallR X (.builtin "len") (RDC X.K lenD) := by
  intro pins s σ H xs us Q I r h
  obtain ⟨F, ds, z, sm, hx, hg, q⟩ := h
  rcases ds with _ | ⟨d, _ | ⟨e, ds⟩⟩
  · cases hg
  · obtain ⟨v, rfl, hv⟩ := hx.one
    cases d <;> simp only [lenD] at hg <;> try (cases hg; done)
    · obtain rfl := hv.str
      split at hg
      · cases hg
        rename_i hl
        exact call_len pins s σ H _ us Q I r ⟨_, _, rfl, ⟨sz5 hl, rfl⟩, end_int sm rfl q⟩
      · cases hg
    · cases hg
      obtain ⟨a, xs, rfl, ha, da⟩ := hv.lst sm
      exact call_len pins s σ H _ us Q I r ⟨_, _, rfl, .inl ⟨xs, ha, rfl⟩, end_int sm (by rw [da.length]) q⟩
    · cases hg
      obtain ⟨a, xs, rfl, ha, da⟩ := hv.tup
      exact call_len pins s σ H _ us Q I r ⟨_, _, rfl, .inr ⟨xs, sqT_mono sm ha, rfl⟩, end_int sm (by rw [da.length]) q⟩
  · cases d <;> cases hg
theorem cb_sum (hc : X.calm = true) : CallR X (.builtin "sum") (RDC X.K sumD) := by
  intro pins s σ H xs us Q I r h
  obtain ⟨F, ds, z, sm, hx, hg, q⟩ := h
  rcases ds with _ | ⟨d, _ | ⟨e, ds⟩⟩
  · cases hg
  · obtain ⟨v, rfl, hv⟩ := hx.one
    cases d <;> simp only [sumD] at hg <;> try (cases hg; done)
    rename_i xs'
    cases e : intsOf xs' with
    | none => rw [e] at hg; cases hg
    | some ns =>
      rw [e] at hg
      cases hg
      obtain ⟨a, xs, rfl, ha, da⟩ := hv.lst sm
      obtain rfl := ints_vs da e
      exact cr_sum hc pins s σ H _ us Q I r ⟨a, ns, rfl, ha, end_int sm rfl q⟩
  · cases d <;> cases hg
theorem cb_all (hc : X.calm = true) : CallR X (.builtin "all") (RDC X.K allD) := by
  intro pins s σ H xs us Q I r h
  obtain ⟨F, ds, z, sm, hx, hg, q⟩ := h
  rcases ds with _ | ⟨d, _ | ⟨e, ds⟩⟩
  · cases hg
  · obtain ⟨v, rfl, hv⟩ := hx.one
    cases d <;> simp only [allD] at hg <;> try (cases hg; done)
    rename_i xs'
    cases e : blsOf xs' with
    | none => rw [e] at hg; cases hg
    | some ns =>
      rw [e] at hg
      cases hg
      obtain ⟨a, xs, rfl, ha, da⟩ := hv.lst sm
      obtain rfl := bls_vs da e
      exact cr_all hc pins s σ H _ us Q I r ⟨a, ns, rfl, ha, end_bl sm rfl q⟩
  · cases d <;> cases hg
theorem ct_tuple : CallR X (.type "tuple") (RDC X.K tupleD) := by
  intro pins s σ H xs us Q I r h
  obtain ⟨F, ds, z, sm, hx, hg, q⟩ := h
  rcases ds with _ | ⟨d, _ | ⟨e, ds⟩⟩
  · cases hg
  · obtain ⟨v, rfl, hv⟩ := hx.one
    cases d <;> simp only [tupleD] at hg <;> try (cases hg; done)
    · cases hg
      obtain ⟨a, xs, rfl, ha, da⟩ := hv.lst sm
      exact call_tupP pins s σ H _ us Q I r ⟨a, xs, rfl, .inl ⟨ha, fun p o np ho => end_tup ho sm rfl da np q⟩⟩
    · cases hg
      obtain ⟨a, xs, rfl, ha, da, pa⟩ := hv.tupP
      exact call_tupP pins s σ H _ us Q I r ⟨a, xs, rfl, .inr ⟨sqT_mono sm ha, q _ F H (.refl sm) (.tup ha da pa)⟩⟩
  · cases d <;> cases hg
theorem ct_list : CallR X (.type "list") (RLC X.K listL) := by
  intro pins s σ H xs us Q I r h
  obtain ⟨F, ds, z, sm, hx, hg, q⟩ := h
  rcases ds with _ | ⟨d, _ | ⟨e, ds⟩⟩
  · cases hg
  · obtain ⟨v, rfl, hv⟩ := hx.one
    cases d <;> simp only [listL] at hg <;> try (cases hg; done)
    · cases hg
      obtain ⟨a, xs, rfl, ha, da⟩ := hv.lst sm
      exact call_list_of pins s σ H _ us Q I r ⟨a, xs, rfl, .inl ha, fun p np => q p xs np da⟩
    · cases hg
      obtain ⟨a, xs, rfl, ha, da⟩ := hv.tup
      exact call_list_of pins s σ H _ us Q I r ⟨a, xs, rfl, .inr (sqT_mono sm ha), fun p np => q p xs np da⟩
  · cases d <;> cases hg
theorem cb_abs : CallR X (.builtin "abs") (RDC X.K absD) := by
  intro pins s σ H xs us Q I r h
  obtain ⟨F, ds, z, sm, hx, hg, q⟩ := h
  rcases ds with _ | ⟨d, _ | ⟨e, ds⟩⟩
  · cases hg
  · obtain ⟨v, rfl, hv⟩ := hx.one
    cases d <;> simp only [absD] at hg <;> try (cases hg; done)
    cases hg
    obtain rfl := hv.int
    exact call_abs pins s σ H _ us Q I r ⟨_, rfl, end_int sm rfl q⟩
  · cases d <;> cases hg
theorem ct_int : CallR X (.type "int") (RDC X.K intD) := by
  intro pins s σ H xs us Q I r h
  obtain ⟨F, ds, z, sm, hx, hg, q⟩ := h
  rcases ds with _ | ⟨d, _ | ⟨e, ds⟩⟩
  · cases hg
  · obtain ⟨v, rfl, hv⟩ := hx.one
    cases d <;> simp only [intD] at hg <;> try (cases hg; done)
    · cases hg
      obtain rfl := hv.bl
      exact call_int1 pins s σ H _ us Q I r (.inr ⟨_, rfl, end_int sm rfl q⟩)
    · cases hg
      obtain rfl := hv.int
      exact call_int1 pins s σ H _ us Q I r (.inl ⟨_, rfl, end_int sm rfl q⟩)
  · cases d <;> cases hg
end
/-- the type's name -/
def tyD : Dt → Option String
  | .none => some "NoneType"
  | .bool _ => some "bool"
  | .int _ => some "int"
  | .str _ => some "str"
  | .list _ => some "list"
  | .tuple _ => some "tuple"
  | _ => none
theorem RB.ty {K : PySem.W.Frag} {F H : Hp} {v : V} {d : Dt} {n : String} (h : RB K F H v d) (sm : Same F H) (e : tyD d = some n) : TyX K H v (.type n) := by
  cases d <;> simp only [tyD] at e <;> try (cases e; done)
  · obtain rfl := h.non; cases e; exact .base .non
  · obtain rfl := h.bl; cases e; exact .base (.bl _)
  · obtain rfl := h.int; cases e; exact .base (.int _)
  · obtain rfl := h.str; cases e; exact .base (.str _)
  · cases e
    obtain ⟨a, xs, rfl, (ha | ⟨o, ha⟩) | ⟨o, its, n, ha, hc, _⟩, da⟩ := h.lst sm
    · exact .base (.lst ha)
    · exact .base (.frz ha)
    · exact .kList ha hc
  · cases e
    obtain ⟨a, xs, rfl, ha, da⟩ := h.tup
    rcases sqT_mono sm ha with (ha | ⟨o, ha⟩) | ⟨o, its, n, ha, hc, _⟩
    · exact .base (.tup ha)
    · exact .fTuple ha
    · exact .kTuple ha hc
/-- isinstance(x, T), T a built-in type -/
def isiD (T : String) (d : Dt) : Option Dt := match tyD d with
  | some n => (kitB n T).map .bool
  | none => none
end Sx

namespace Sx
open PySem PySem.Spec PyProof.Rows L2

/-! ### expressions as functions of the slots -/
def eVar (i : Nat) : SE := fun ρ W => match ρ[i]? with
  | some (some (.d x)) => .ok (x, W)
  | _ => .bad
def eBor (i : Nat) : SE := fun ρ W => match ρ[i]? with
  | some (some (.d x)) => .ok (x, W)
  | some (some (.own xs)) => .ok (.list xs, W)
  | _ => .bad
def eC (x : Dt) : SE := fun _ W => .ok (x, W)
def eBin (g : Dt → Dt → Option Dt) (a b : SE) : SE := fun ρ W => (a ρ W).bind fun p => (b ρ p.2).bind fun q => ofO (g p.1 q.1) q.2
def eUn (g : Dt → Option Dt) (a : SE) : SE := fun ρ W => (a ρ W).bind fun p => ofO (g p.1) p.2
def aNil : SA := fun _ W => .ok ([], W)
def aCons (e : SE) (a : SA) : SA := fun ρ W => (e ρ W).bind fun p => (a ρ p.2).bind fun q => .ok (p.1 :: q.1, q.2)
def eTup (a : SA) : SE := fun ρ W => (a ρ W).bind fun p => if p.1.length ≤ 100000 then .ok (.tuple p.1, p.2) else .bad
def lLst (a : SA) : SA := fun ρ W => (a ρ W).bind fun p => if p.1.length ≤ 100000 then .ok p else .bad
def eFrz (f : SA) : SE := fun ρ W => (f ρ W).bind fun p => .ok (.list p.1, p.2)
def eCB (g : List Dt → Option Dt) (a : SA) : SE := fun ρ W => (a ρ W).bind fun p => ofO (g p.1) p.2
def lCB (g : List Dt → Option (List Dt)) (a : SA) : SA := fun ρ W => (a ρ W).bind fun p => ofO (g p.1) p.2
def asB : Dt → Option Bool
  | .bool b => some b
  | _ => none
def bOf (e : SE) : SB := fun ρ W => (e ρ W).bind fun p => ofO (asB p.1) p.2
def bAnd (a b : SB) : SB := fun ρ W => (a ρ W).bind fun p => if p.1 = true then b ρ p.2 else .ok (false, p.2)
def bOr (a b : SB) : SB := fun ρ W => (a ρ W).bind fun p => if p.1 = true then .ok (true, p.2) else b ρ p.2
def bNot (a : SB) : SB := fun ρ W => (a ρ W).bind fun p => .ok (!p.1, p.2)
def eAnd (a b : SE) : SE := fun ρ W => (bOf a ρ W).bind fun p => if p.1 = true then b ρ p.2 else .ok (.bool false, p.2)
def eNot (a : SE) : SE := fun ρ W => (bOf a ρ W).bind fun p => .ok (.bool (!p.1), p.2)
def eIf (c : SB) (a b : SE) : SE := fun ρ W => (c ρ W).bind fun p => if p.1 = true then a ρ p.2 else b ρ p.2
def eChain (g g' : Dt → Dt → Option Dt) (a b c : SE) : SE := fun ρ W => (a ρ W).bind fun p => (b ρ p.2).bind fun q => (ofO ((g p.1 q.1).bind asB) q.2).bind fun k =>
  if k.1 = true then (c ρ q.2).bind fun r => ofO (g' q.1 r.1) r.2 else .ok (.bool false, q.2)
section
variable {X : Cx} {XE : Str → Hp → Prop} {e a b c : Expr} {es : List Expr} {pos : Pos} {fa fb fc : SE} {ga : SA}
/-- args that are only read -/
def tAR (K : PySem.W.Frag) (XE : Str → Hp → Prop) (f : SA) : TA := fun σ H Q => ∃ G ρ W F, Rel K G ρ W σ F H ∧
  Pg XE G (f ρ W) fun ds W' => ∀ vs F' H', Same F F' → Rel K G ρ W' σ F' H' → (∀ F2 H2 W2, Same F' F2 → Rel K G ρ W2 σ F2 H2 → RBs K F2 H2 vs ds) → Q vs H'
theorem d_var {i : Nat} {x : Str} (h : PE X (.Name x pos) (tVar i)) : PE X (.Name x pos) (tE X.K XE (eVar i)) := by
  refine h.weak fun σ H Q ⟨G, ρ, W, F, R, p⟩ => ?_
  unfold eVar at p
  split at p
  · rename_i y hy
    obtain ⟨v, h1, h2⟩ := R.sl i _ hy
    exact ⟨v, h1, p v F H (.refl _) R h2⟩
  · exact p.elim
theorem d_bor {i : Nat} {x : Str} (h : PE X (.Name x pos) (tVar i)) : PE X (.Name x pos) (tR X.K XE (eBor i)) := by
  refine h.weak fun σ H Q ⟨G, ρ, W, F, R, p⟩ => ?_
  unfold eBor at p
  split at p
  · rename_i y hy
    obtain ⟨v, h1, h2⟩ := R.sl i _ hy
    exact ⟨v, h1, p v F H (.refl _) R fun F' H' W' s _ => .inl (Dq.mono h2 s)⟩
  · rename_i xs hy
    obtain ⟨v, h1, h2⟩ := R.sl i _ hy
    refine ⟨v, h1, p v F H (.refl _) R fun F' H' W' s R' => ?_⟩
    obtain ⟨v', h1', p', vs', e1, _, h3, h4⟩ := R'.sl i _ hy
    rw [h1] at h1'
    cases h1'
    exact .inr ⟨p', vs', xs, e1, rfl, h3, h4⟩
  · exact p.elim
theorem d_r (h : PE X e (tE X.K XE fa)) : PE X e (tR X.K XE fa) := by
  refine h.weak fun σ H Q ⟨G, ρ, W, F, R, p⟩ => ⟨G, ρ, W, F, R, p.mono fun d W' q v F' H' s R' hv => q v F' H' s R' fun F2 H2 W2 s2 _ => .inl (hv.mono s2)⟩
theorem d_c {v : V} {d : Dt} (h : PE X e (tC v)) (hd : ∀ F, Dq X.K F v d) : PE X e (tE X.K XE (eC d)) := by
  refine h.weak fun σ H Q ⟨G, ρ, W, F, R, p⟩ => ?_
  exact p v F H (.refl _) R (hd F)
theorem d_int {i : Int} {j : Nat} : PE X (.Constant (.int i) j pos) (tE X.K XE (eC (.int i))) := d_c pe_int fun _ => .int i
theorem d_str {i : Str} {j : Nat} : PE X (.Constant (.str i) j pos) (tE X.K XE (eC (.str i))) := d_c pe_str fun _ => .str i
theorem d_bl {i : Bool} {j : Nat} : PE X (.Constant (.bool i) j pos) (tE X.K XE (eC (.bool i))) := d_c pe_bl fun _ => .bl i
theorem d_non {j : Nat} : PE X (.Constant .none j pos) (tE X.K XE (eC .none)) := d_c pe_non fun _ => .non
theorem tOp_of {g : Dt → Dt → Option Dt} {σ : L2.St} {H : Hp} {Q : VK} (h : tE X.K XE (eBin g fa fb) σ H Q) : tOp (RD2 X.K g) (tR X.K XE fa) (tR X.K XE fb) σ H Q := by
  obtain ⟨G, ρ, W, F, R, p⟩ := h
  refine ⟨G, ρ, W, F, R, p.of_bind.mono fun d W1 q v F1 H1 s1 R1 st1 => ⟨G, ρ, W1, F1, R1, q.of_bind.mono fun e W2 q2 y F2 H2 s2 R2 st2 => ?_⟩⟩
  obtain ⟨z, hz, q3⟩ := q2.of_ofO
  exact ⟨F2, d, e, z, R2.fh, st1 F2 H2 W2 s2 R2, st2 F2 H2 W2 (.refl _) R2, hz, fun w F' H' g0 hw => q3 w F' H' ((s1.trans s2).trans g0.ff) (R2.grow g0) hw⟩
theorem d_bin {op : Operator} {g : Dt → Dt → Option Dt} (ho : OpR X (binaryOp op) (RD2 X.K g)) (ha : PE X a (tR X.K XE fa)) (hb : PE X b (tR X.K XE fb)) : PE X (.BinOp a op b pos) (tE X.K XE (eBin g fa fb)) :=
  (pe_op ho ha hb).weak fun _ _ _ => tOp_of
theorem d_cmp {op : CmpOp} {g : Dt → Dt → Option Dt} (ho : OpR X (compareOp op) (RD2 X.K g)) (ha : PE X a (tR X.K XE fa)) (hb : PE X b (tR X.K XE fb)) (hm : behindInMarks op b = false) : PE X (.Compare a [op] [b] pos) (tE X.K XE (eBin g fa fb)) :=
  (pe_cmpR ho ha hb hm).weak fun _ _ _ => tOp_of
theorem d_ix {g : Dt → Dt → Option Dt} (ho : IxR X (RD2 X.K g)) (ha : PE X a (tR X.K XE fa)) (hb : PE X b (tR X.K XE fb)) (hs : PlainIx b) : PE X (.Subscript a b pos) (tE X.K XE (eBin g fa fb)) :=
  (pe_ix ho ha hb hs).weak fun _ _ _ => tOp_of
theorem d_un {op : UnaryOp} {g : Dt → Option Dt} (ho : UnR X (unaryOp op) (RD1 X.K g)) (ha : PE X a (tR X.K XE fa)) : PE X (.UnaryOp op a pos) (tE X.K XE (eUn g fa)) := by
  refine (pe_un ho ha).weak fun σ H Q ⟨G, ρ, W, F, R, p⟩ => ?_
  refine ⟨G, ρ, W, F, R, p.of_bind.mono fun d W1 q v F1 H1 s1 R1 st1 => ?_⟩
  obtain ⟨z, hz, q3⟩ := q.of_ofO
  exact ⟨F1, d, z, R1.fh, st1 F1 H1 W1 (.refl _) R1, hz, fun w F' H' g0 hw => q3 w F' H' (s1.trans g0.ff) (R1.grow g0) hw⟩
/-! tests -/
theorem test_of {σ : L2.St} {H : Hp} {Q : Bool → Hp → Prop} (h : tT X.K XE (bOf fa) σ H Q) : tE X.K XE fa σ H fun x H' => ∃ k, x = .bl k ∧ Q k H' := by
  obtain ⟨G, ρ, W, F, R, p⟩ := h
  refine ⟨G, ρ, W, F, R, p.of_bind.mono fun d W1 q v F1 H1 s1 R1 hv => ?_⟩
  obtain ⟨k, hk, q3⟩ := q.of_ofO
  cases d <;> simp only [asB] at hk <;> try (cases hk; done)
  cases hk
  cases hv
  exact ⟨_, rfl, q3 F1 H1 s1 R1⟩
theorem c_val (h : PE X e (tE X.K XE fa)) (he : ∀ whole, isTrue e X.env whole = (do let v ← whole; standAt e.pos; holding [v] (truthy v)) := by intro _; rfl) : PT X e (tT X.K XE (bOf fa)) :=
  (pt_val h he).weak fun _ _ _ => test_of
theorem c_cmp {op : CmpOp} {g : Dt → Dt → Option Dt} (ho : OpR X (compareOp op) (RD2 X.K g)) (ha : PE X a (tR X.K XE fa)) (hb : PE X b (tR X.K XE fb)) (hm : behindInMarks op b = false) : PT X (.Compare a [op] [b] pos) (tT X.K XE (bOf (eBin g fa fb))) :=
  (pt_cmpR ho ha hb hm).weak fun _ _ _ h => tOp_of (test_of h)
variable {ba bb : SB} {rest : List Expr}
theorem c_and1 (ha : PT X a (tT X.K XE ba)) : PW X (.BoolOp .And [a] pos) (tT X.K XE ba) := pw_and1 ha
theorem c_or1 (ha : PT X a (tT X.K XE ba)) : PW X (.BoolOp .Or [a] pos) (tT X.K XE ba) := pw_or1 ha
theorem c_and (ha : PT X a (tT X.K XE ba)) (hb : PW X (.BoolOp .And (b :: rest) pos) (tT X.K XE bb)) : PW X (.BoolOp .And (a :: b :: rest) pos) (tT X.K XE (bAnd ba bb)) := by
  refine (pw_and ha hb).weak fun σ H Q ⟨G, ρ, W, F, R, p⟩ => ?_
  refine ⟨G, ρ, W, F, R, p.of_bind.mono fun d W1 q F1 H1 s1 R1 => ?_⟩
  cases d with
  | true => exact ⟨G, ρ, W1, F1, R1, Pg.mono q fun k W2 q2 F2 H2 s2 R2 => q2 F2 H2 (s1.trans s2) R2⟩
  | false => exact q F1 H1 s1 R1
theorem c_or (ha : PT X a (tT X.K XE ba)) (hb : PW X (.BoolOp .Or (b :: rest) pos) (tT X.K XE bb)) : PW X (.BoolOp .Or (a :: b :: rest) pos) (tT X.K XE (bOr ba bb)) := by
  refine (pw_or ha hb).weak fun σ H Q ⟨G, ρ, W, F, R, p⟩ => ?_
  refine ⟨G, ρ, W, F, R, p.of_bind.mono fun d W1 q F1 H1 s1 R1 => ?_⟩
  cases d with
  | false => exact ⟨G, ρ, W1, F1, R1, Pg.mono q fun k W2 q2 F2 H2 s2 R2 => q2 F2 H2 (s1.trans s2) R2⟩
  | true => exact q F1 H1 s1 R1
theorem c_not (ha : PT X a (tT X.K XE ba)) : PT X (.UnaryOp .Not a pos) (tT X.K XE (bNot ba)) := by
  refine (pt_not ha).weak fun σ H Q ⟨G, ρ, W, F, R, p⟩ => ?_
  exact ⟨G, ρ, W, F, R, p.of_bind.mono fun d W1 q F1 H1 s1 R1 => q F1 H1 s1 R1⟩
/-! and, or, not as values -/
theorem bl_of {σ : L2.St} {H : Hp} {G : Gh} {ρ : Sl} {W : Tw} {F : Hp} {β : Type} {k : Bool × Tw → Res (β × Tw)} {P : β → Tw → Prop} {Q : VK} (R : Rel X.K G ρ W σ F H) (p : Pg XE G ((bOf fa ρ W).bind k) P)
    (hq : ∀ (d : Bool) W1 F1 H1, Same F F1 → Rel X.K G ρ W1 σ F1 H1 → Pg XE G (k (d, W1)) P → Q (.bl d) H1) : tE X.K XE fa σ H Q := by
  refine ⟨G, ρ, W, F, R, p.of_bind.of_bind.mono fun d W1 q v F1 H1 s1 R1 hv => ?_⟩
  obtain ⟨b, hb, q2⟩ := q.of_ofO
  cases d <;> simp only [asB] at hb <;> try (cases hb; done)
  cases hb
  cases hv
  exact hq _ W1 F1 H1 s1 R1 q2
theorem d_one {op} (h : PE X a (tE X.K XE fa)) : PE X (.BoolOp op [a] pos) (tE X.K XE fa) := pe_one h
theorem d_and (ha : PE X a (tE X.K XE fa)) (hb : PE X (.BoolOp .And (b :: rest) pos) (tE X.K XE fb)) : PE X (.BoolOp .And (a :: b :: rest) pos) (tE X.K XE (eAnd fa fb)) := by
  refine (pe_and ha hb).weak fun σ H Q ⟨G, ρ, W, F, R, p⟩ => bl_of R p fun d W1 F1 H1 s1 R1 q => ⟨d, rfl, ?_⟩
  cases d with
  | true => exact ⟨G, ρ, W1, F1, R1, Pg.mono q fun k W2 q2 v F2 H2 s2 R2 => q2 v F2 H2 (s1.trans s2) R2⟩
  | false => exact q _ F1 H1 s1 R1 (.bl false)
theorem d_not (ha : PE X a (tE X.K XE fa)) : PE X (.UnaryOp .Not a pos) (tE X.K XE (eNot fa)) := by
  refine (pe_not ha).weak fun σ H Q ⟨G, ρ, W, F, R, p⟩ => bl_of R p fun d W1 F1 H1 s1 R1 q => ⟨d, rfl, ?_⟩
  exact q _ F1 H1 s1 R1 (.bl _)
theorem d_if (hc : PT X c (tT X.K XE ba)) (ha : PE X a (tE X.K XE fa)) (hb : PE X b (tE X.K XE fb)) : PE X (.IfExp c a b pos) (tE X.K XE (eIf ba fa fb)) := by
  refine (pe_ifExp hc ha hb).weak fun σ H Q ⟨G, ρ, W, F, R, p⟩ => ?_
  refine ⟨G, ρ, W, F, R, p.of_bind.mono fun d W1 q F1 H1 s1 R1 => ?_⟩
  cases d with
  | true => exact ⟨G, ρ, W1, F1, R1, Pg.mono q fun k W2 q2 v F2 H2 s2 R2 => q2 v F2 H2 (s1.trans s2) R2⟩
  | false => exact ⟨G, ρ, W1, F1, R1, Pg.mono q fun k W2 q2 v F2 H2 s2 R2 => q2 v F2 H2 (s1.trans s2) R2⟩
theorem chain_of {g g' : Dt → Dt → Option Dt} {σ : L2.St} {H : Hp} {Q : VK} (h : tE X.K XE (eChain g g' fa fb fc) σ H Q) : tChain (RD2 X.K g) (RD2 X.K g') (tR X.K XE fa) (tR X.K XE fb) (tR X.K XE fc) σ H Q := by
  obtain ⟨G, ρ, W, F, R, p⟩ := h
  refine ⟨G, ρ, W, F, R, p.of_bind.mono fun d W1 q v F1 H1 s1 R1 st1 => ⟨G, ρ, W1, F1, R1, q.of_bind.mono fun e W2 q2 y F2 H2 s2 R2 st2 => ?_⟩⟩
  obtain ⟨k, hk, q3⟩ := q2.of_bind.of_ofO
  cases hz : g d e with
  | none => rw [hz] at hk; cases hk
  | some z =>
    rw [hz] at hk
    have hk' : asB z = some k := hk
    cases z <;> simp only [asB] at hk' <;> try (cases hk'; done)
    cases hk'
    refine ⟨F2, d, e, _, R2.fh, st1 F2 H2 W2 s2 R2, st2 F2 H2 W2 (.refl _) R2, hz, fun w F' H' g0 hw => ?_⟩
    cases hw
    refine ⟨_, rfl, ?_⟩
    cases k with
    | true =>
      refine ⟨G, ρ, W2, F', R2.grow g0, q3.of_bind.mono fun r W3 q4 u F3 H3 s3 R3 st3 => ?_⟩
      obtain ⟨z', hz', q5⟩ := q4.of_ofO
      exact ⟨F3, e, r, z', R3.fh, st2 F3 H3 W3 (g0.ff.trans s3) R3, st3 F3 H3 W3 (.refl _) R3, hz', fun w F4 H4 g4 hw => q5 w F4 H4 ((((s1.trans s2).trans g0.ff).trans s3).trans g4.ff) (R3.grow g4) hw⟩
    | false => exact q3 _ F' H' ((s1.trans s2).trans g0.ff) (R2.grow g0) (.bl false)
theorem d_chain {op op' : CmpOp} {g g' : Dt → Dt → Option Dt} (ho : OpR X (compareOp op) (RD2 X.K g)) (ho' : OpR X (compareOp op') (RD2 X.K g')) (ha : PE X a (tR X.K XE fa)) (hb : PE X b (tR X.K XE fb)) (hc : PE X c (tR X.K XE fc))
    (hm : lastMarks [op, op'] [b, c] = false := by with_unfolding_all rfl) : PE X (.Compare a [op, op'] [b, c] pos) (tE X.K XE (eChain g g' fa fb fc)) := (pe_chain ho ho' ha hb hc hm).weak fun _ _ _ => chain_of
theorem c_chain {op op' : CmpOp} {g g' : Dt → Dt → Option Dt} (ho : OpR X (compareOp op) (RD2 X.K g)) (ho' : OpR X (compareOp op') (RD2 X.K g')) (ha : PE X a (tR X.K XE fa)) (hb : PE X b (tR X.K XE fb)) (hc : PE X c (tR X.K XE fc))
    (hm : lastMarks [op, op'] [b, c] = false := by with_unfolding_all rfl) : PT X (.Compare a [op, op'] [b, c] pos) (tT X.K XE (bOf (eChain g g' fa fb fc))) := (pt_chain ho ho' ha hb hc hm).weak fun _ _ _ h => chain_of (test_of h)
/-! arguments -/
theorem a_nil : PA X [] (tA X.K XE aNil) := pa_nil.weak fun σ H Q ⟨G, ρ, W, F, R, p⟩ => p [] F H (.refl _) R .nil
theorem a_cons (ha : PE X e (tE X.K XE fa)) (hr : PA X es (tA X.K XE ga)) (hs : starEach (e :: es) X.env = (false, eval e X.env) :: starEach es X.env := by rfl) : PA X (e :: es) (tA X.K XE (aCons fa ga)) := by
  refine (pa_cons ha hr hs).weak fun σ H Q ⟨G, ρ, W, F, R, p⟩ => ?_
  exact ⟨G, ρ, W, F, R, p.of_bind.mono fun d W1 q v F1 H1 s1 R1 hv => ⟨G, ρ, W1, F1, R1, q.of_bind.mono fun ds W2 q2 vs F2 H2 s2 R2 hvs => q2 _ F2 H2 (s1.trans s2) R2 (.cons (hv.mono s2) hvs)⟩⟩
theorem r_nil : PA X [] (tAR X.K XE aNil) := pa_nil.weak fun σ H Q ⟨G, ρ, W, F, R, p⟩ => p [] F H (.refl _) R fun _ _ _ _ _ => .nil
theorem r_cons (ha : PE X e (tR X.K XE fa)) (hr : PA X es (tAR X.K XE ga)) (hs : starEach (e :: es) X.env = (false, eval e X.env) :: starEach es X.env := by rfl) : PA X (e :: es) (tAR X.K XE (aCons fa ga)) := by
  refine (pa_cons ha hr hs).weak fun σ H Q ⟨G, ρ, W, F, R, p⟩ => ?_
  exact ⟨G, ρ, W, F, R, p.of_bind.mono fun d W1 q v F1 H1 s1 R1 hv => ⟨G, ρ, W1, F1, R1, q.of_bind.mono fun ds W2 q2 vs F2 H2 s2 R2 hvs => q2 _ F2 H2 (s1.trans s2) R2 fun F3 H3 W3 s3 R3 => .cons (hv F3 H3 W3 (s2.trans s3) R3) (hvs F3 H3 W3 s3 R3)⟩⟩
theorem d_tup {x1} (h : PA X es (tA X.K XE ga)) : PE X (.Tuple es x1 pos) (tE X.K XE (eTup ga)) := by
  refine (pe_tupP h).weak fun σ H Q ⟨G, ρ, W, F, R, p⟩ => ?_
  refine ⟨G, ρ, W, F, R, p.of_bind.mono fun ds W1 q vs F1 H1 s1 R1 hv => ?_⟩
  by_cases hl : ds.length ≤ 100000
  · have q' : ∀ v F' H', Same F F' → Rel X.K G ρ W1 σ F' H' → Dq X.K F' v (.tuple ds) → Q v H' := by
      have q1 := q
      simp only [hl, if_true] at q1
      exact q1
    refine ⟨sz5 (by rw [hv.length]; exact hl), fun np o hp ho => ?_⟩
    have g : Gr0 X.K F1 H1 (upd F1 np (.frz o (.tup vs))) (upd H1 np (.frz o (.tup vs))) := .new R1.fh hp
    exact q' _ _ _ (s1.trans g.ff) (R1.grow g) (.tup (.inl (.inr ⟨o, upd_same⟩)) (hv.mono g.ff) (.inl ⟨o, upd_same, ho⟩))
  · simp only [hl, if_false] at q
    exact q.elim
theorem l_lst (h : PA X es (tA X.K XE ga)) : PE X (.List es pos) (tL X.K XE (lLst ga)) := by
  refine (pe_lst h).weak fun σ H Q ⟨G, ρ, W, F, R, p⟩ => ?_
  refine ⟨G, ρ, W, F, R, p.of_bind.mono fun ds W1 q vs F1 H1 s1 R1 hv => ?_⟩
  by_cases hl : ds.length ≤ 100000
  · simp only [hl, if_true] at q
    refine ⟨sz5 (by rw [hv.length]; exact hl), fun np hp => ?_⟩
    have g : Gr0 X.K F1 H1 F1 (upd H1 np (.lst vs)) := .newH R1.fh hp
    exact q np vs F1 _ s1 (R1.grow g) (R1.fresh hp) upd_same (R1.fh.free hp) hv
  · simp only [hl, if_false] at q
    exact q.elim
/-- a new list, told to all -/
theorem d_frz (h : PE X e (tL X.K XE ga)) : PE X e (tE X.K XE (eFrz ga)) := by
  refine h.weak fun σ H Q ⟨G, ρ, W, F, R, p⟩ => ⟨G, ρ, W, F, R, p.of_bind.mono fun ds W1 q np vs F1 H1 s1 R1 fr hp hF hv => ?_⟩
  have sF : Same F1 (upd F1 np (.lst vs)) := same_new hF
  exact q _ (upd F1 np (.lst vs)) H1 (s1.trans sF) (R1.freeze hp hF fr) (.lst (.inl (.inl upd_same)) (hv.mono sF))
/-! calls of built-ins -/
theorem tCB_of {g : List Dt → Option Dt} {σ : L2.St} {H : Hp} {Q : VK} (h : tE X.K XE (eCB g ga) σ H Q) : tCB (RDC X.K g) (tAR X.K XE ga) σ H Q := by
  obtain ⟨G, ρ, W, F, R, p⟩ := h
  refine ⟨G, ρ, W, F, R, p.of_bind.mono fun ds W1 q vs F1 H1 s1 R1 st => ?_⟩
  obtain ⟨z, hz, q3⟩ := q.of_ofO
  exact ⟨F1, ds, z, R1.fh, st F1 H1 W1 (.refl _) R1, hz, fun w F' H' g0 hw => q3 w F' H' (s1.trans g0.ff) (R1.grow g0) hw⟩
theorem lCB_of {g : List Dt → Option (List Dt)} {σ : L2.St} {H : Hp} {Q : VK} (h : tL X.K XE (lCB g ga) σ H Q) : tCB (RLC X.K g) (tAR X.K XE ga) σ H Q := by
  obtain ⟨G, ρ, W, F, R, p⟩ := h
  refine ⟨G, ρ, W, F, R, p.of_bind.mono fun ds W1 q vs F1 H1 s1 R1 st => ?_⟩
  obtain ⟨z, hz, q3⟩ := q.of_ofO
  refine ⟨F1, ds, z, R1.fh, st F1 H1 W1 (.refl _) R1, hz, fun np us hp hv => ?_⟩
  have g : Gr0 X.K F1 H1 F1 (upd H1 np (.lst us)) := .newH R1.fh hp
  exact q3 np us F1 _ s1 (R1.grow g) (R1.fresh hp) upd_same (R1.fh.free hp) hv
variable {x : Str} {p : Pos} {id : String}
theorem d_callB {g : List Dt → Option Dt} (hc : CallR X (.builtin id) (RDC X.K g)) (hg : Gl X x) (hm : X.mg x = none) (hv : bootBuiltins x = some (.builtin id)) (ha : PA X (e :: es) (tAR X.K XE ga)) (hn : x ≠ "__name__" := by decide) (hdb : (x == ("__debug__" : Str)) = false := by decide)
    (he : starEach (e :: es) X.env = (false, eval e X.env) :: starEach es X.env := by rfl) (hpl : (backTo pos (starEach es X.env)).any (·.1) = false := by rfl) : PE X (.Call (.Name x p) (e :: es) [] pos) (tE X.K XE (eCB g ga)) := (pe_callB hc hg hm hv ha hn hdb he hpl).weak fun _ _ _ => tCB_of
theorem d_callTy {g : List Dt → Option Dt} (hc : CallR X (.type id) (RDC X.K g)) (hg : Gl X x) (hm : X.mg x = none) (hv : bootBuiltins x = some (.type id)) (ha : PA X (e :: es) (tAR X.K XE ga)) (hn : x ≠ "__name__" := by decide) (hdb : (x == ("__debug__" : Str)) = false := by decide)
    (he : starEach (e :: es) X.env = (false, eval e X.env) :: starEach es X.env := by rfl) (hpl : (backTo pos (starEach es X.env)).any (·.1) = false := by rfl) : PE X (.Call (.Name x p) (e :: es) [] pos) (tE X.K XE (eCB g ga)) := (pe_callTy hc hg hm hv ha hn hdb he hpl).weak fun _ _ _ => tCB_of
theorem l_callTy {g : List Dt → Option (List Dt)} (hc : CallR X (.type id) (RLC X.K g)) (hg : Gl X x) (hm : X.mg x = none) (hv : bootBuiltins x = some (.type id)) (ha : PA X (e :: es) (tAR X.K XE ga)) (hn : x ≠ "__name__" := by decide) (hdb : (x == ("__debug__" : Str)) = false := by decide)
    (he : starEach (e :: es) X.env = (false, eval e X.env) :: starEach es X.env := by rfl) (hpl : (backTo pos (starEach es X.env)).any (·.1) = false := by rfl) : PE X (.Call (.Name x p) (e :: es) [] pos) (tL X.K XE (lCB g ga)) := (pe_callTy hc hg hm hv ha hn hdb he hpl).weak fun _ _ _ => lCB_of
/-- isinstance(e, T), T a built-in type's name -/
theorem d_isi {n : String} {t : Str} {pt : Pos} (hg : Gl X "isinstance") (hm : X.mg "isinstance" = none) (hgt : Gl X t) (hmt : X.mg t = none) (hvt : bootBuiltins t = some (.type n)) (ha : PE X a (tR X.K XE fa)) (hn : t ≠ "__name__" := by decide) (hdt : (t == ("__debug__" : Str)) = false := by decide)
    (he : starEach [a, .Name t pt] X.env = (false, eval a X.env) :: starEach [.Name t pt] X.env := by rfl) (he2 : starEach [.Name t pt] X.env = (false, eval (.Name t pt) X.env) :: starEach [] X.env := by rfl) (hpl : (backTo pos (starEach [.Name t pt] X.env)).any (·.1) = false := by rfl) :
    PE X (.Call (.Name "isinstance" p) [a, .Name t pt] [] pos) (tE X.K XE (eUn (isiD n) fa)) := by
  refine (pe_callB call_isi hg hm (by decide +kernel) (pa_cons ha (pa_cons (pe_bltn (v := .ty n) hgt hmt hvt rfl hn hdt) pa_nil he2) he) (by decide) (by decide) he hpl).weak fun σ H Q ⟨G, ρ, W, F, R, p⟩ => ?_
  refine ⟨G, ρ, W, F, R, p.of_bind.mono fun d W1 q v F1 H1 s1 R1 st1 => ?_⟩
  obtain ⟨z, hz, q3⟩ := q.of_ofO
  have rb := st1 F1 H1 W1 (.refl _) R1
  unfold isiD at hz
  cases ht : tyD d with
  | none => rw [ht] at hz; cases hz
  | some m =>
    rw [ht] at hz
    cases hk : kitB m n with
    | none => simp only [hk] at hz; cases hz
    | some b =>
      simp only [hk] at hz
      cases hz
      exact ⟨v, .ty n, .type m, .type n, b, rfl, .ty n, rb.ty R1.fh ht, kit_ty hk, q3 _ F1 H1 s1 R1 (.bl b)⟩
end
end Sx

namespace Sx
open PySem PySem.Spec PyProof.Rows L2

/-! ### slices -/
def cutD (xs : List Dt) (lo hi : Option Int) : List Dt := (xs.drop (HT.sIx xs.length 0 lo)).take (HT.sIx xs.length xs.length hi - HT.sIx xs.length 0 lo)
def sliceD (d : Dt) (lo hi : Option Int) : Option Dt := match d with
  | .tuple ds => some (.tuple (cutD ds lo hi))
  | .list ds => some (.list (cutD ds lo hi))
  | .str z => if z.length ≤ 100000 then some (.str (cutS z lo hi)) else none
  | _ => none
abbrev SO := Sl → Tw → Res (Option Int × Tw)
def oNone : SO := fun _ W => .ok (none, W)
def asI : Dt → Option Int
  | .int i => some i
  | _ => none
def oSome (e : SE) : SO := fun ρ W => (e ρ W).bind fun p => ofO ((asI p.1).map some) p.2
def eSlice (e : SE) (lo hi : SO) : SE := fun ρ W => (e ρ W).bind fun p => (lo ρ p.2).bind fun l => (hi ρ l.2).bind fun h => ofO (sliceD p.1 l.1 h.1) h.2
def tO (K : PySem.W.Frag) (XE : Str → Hp → Prop) (f : SO) : TO := fun σ H Q => ∃ G ρ W F, Rel K G ρ W σ F H ∧
  Pg XE G (f ρ W) fun o W' => ∀ F' H', Same F F' → Rel K G ρ W' σ F' H' → Q o H'
theorem DqAll.cut {K : PySem.W.Frag} {F : Hp} {vs : List V} {ds : List Dt} (h : DqAll K F vs ds) (lo hi : Option Int) : DqAll K F (cutV vs lo hi) (cutD ds lo hi) := by
  unfold cutV cutD
  rw [h.length]
  exact (h.drop _).take _
section
variable {X : Cx} {XE : Str → Hp → Prop} {e a b c : Expr} {es : List Expr} {pos p2 : Pos} {fa fb fc : SE} {ga gb : SA} {lo hi : Option Expr} {fl fh : SO}
theorem o_none : PO X none (tO X.K XE oNone) := ⟨fun pins s σ H Q I ⟨G, ρ, W, F, R, p⟩ => po_none.run pins s σ H Q I (p F H (.refl _) R)⟩
theorem o_some (h : PE X e (tE X.K XE fa)) : PO X (some e) (tO X.K XE (oSome fa)) := ⟨fun pins s σ H Q I ⟨G, ρ, W, F, R, p⟩ => (po_some h).run pins s σ H Q I ⟨G, ρ, W, F, R, p.of_bind.mono fun d W1 q v F1 H1 s1 R1 hv => by
  obtain ⟨o, ho, q2⟩ := q.of_ofO
  cases d <;> simp only [asI] at ho <;> try (cases ho; done)
  cases ho
  cases hv
  exact ⟨_, rfl, q2 F1 H1 s1 R1⟩⟩⟩
def rSlD (K : PySem.W.Frag) : V → Option Int → Option Int → Hp → VK → Prop := fun x lo hi H Q => ∃ F d z, Same F H ∧ RB K F H x d ∧ sliceD d lo hi = some z ∧ ∀ v F' H', Gr0 K F H F' H' → Dq K F' v z → Q v H'
theorem sl_D : SlR X (rSlD X.K) := by
  intro pins s σ H x v vl vu lo hi sl Q I rx hs pl pu h
  obtain ⟨F, d, z, sm, hx, hg, q⟩ := h
  cases d <;> simp only [sliceD] at hg <;> try (cases hg; done)
  · obtain rfl := hx.str
    split at hg
    · cases hg
      rename_i hl
      exact sl_str pins s σ H _ v vl vu lo hi sl Q I rx hs pl pu ⟨_, rfl, sz5 hl, end_str sm rfl q⟩
    · cases hg
  · cases hg
    obtain ⟨a, xs, rfl, ha, da⟩ := hx.lst sm
    exact sl_list pins s σ H _ v vl vu lo hi sl Q I rx hs pl pu ⟨a, xs, rfl, ha, fun p np => end_lst sm rfl (da.cut lo hi) np q⟩
  · cases hg
    obtain ⟨a, xs, rfl, ha, da, pa⟩ := hx.tupP
    refine sl_tupP pins s σ H _ v vl vu lo hi sl Q I rx hs pl pu ⟨a, xs, rfl, sqT_mono sm ha, fun w => ?_, fun _ p o np ho => end_tup ho sm rfl (da.cut lo hi) np q⟩
    have hc := da.cut lo hi
    have e : cutV xs lo hi = xs := by
      unfold cutV
      rw [w.1, w.2, List.drop_zero, Nat.sub_zero, List.take_length]
    rw [e] at hc
    exact q _ F H (.refl sm) (.tup ha hc pa)
theorem d_slice (he : PE X e (tR X.K XE fa)) (hl : PO X lo (tO X.K XE fl)) (hu : PO X hi (tO X.K XE fh)) : PE X (.Subscript e (.Slice lo hi none p2) pos) (tE X.K XE (eSlice fa fl fh)) := by
  refine (pe_slice sl_D he hl hu).weak fun σ H Q ⟨G, ρ, W, F, R, p⟩ => ?_
  refine ⟨G, ρ, W, F, R, p.of_bind.mono fun d W1 q v F1 H1 s1 R1 st1 => ⟨G, ρ, W1, F1, R1, q.of_bind.mono fun l W2 q2 F2 H2 s2 R2 => ⟨G, ρ, W2, F2, R2, q2.of_bind.mono fun u W3 q3 F3 H3 s3 R3 => ?_⟩⟩⟩
  obtain ⟨z, hz, q4⟩ := q3.of_ofO
  exact ⟨F3, d, z, R3.fh, st1 F3 H3 W3 (s2.trans s3) R3, hz, fun w F' H' g0 hw => q4 w F' H' (((s1.trans s2).trans s3).trans g0.ff) (R3.grow g0) hw⟩

/-! ### new lists by + and * -/
def addL : Dt → Dt → Option (List Dt)
  | .list a, .list b => if a.length + b.length ≤ 100000 then some (a ++ b) else none
  | _, _ => none
def mulL : Dt → Dt → Option (List Dt)
  | .list a, .int k => if k ≤ 1000 ∧ -1000 ≤ k ∧ a.length ≤ 1000 then some (List.replicate k.toNat a).flatten else none
  | _, _ => none
def lBin (g : Dt → Dt → Option (List Dt)) (a b : SE) : SA := fun ρ W => (a ρ W).bind fun p => (b ρ p.2).bind fun q => ofO (g p.1 q.1) q.2
theorem op_addL : OpR X (binaryOp .Add) (RL2 X.K addL) := by
  intro pins s σ H x y v u Q I rx ry h
  obtain ⟨F, d, e, z, sm, hx, hy, hg, q⟩ := h
  cases d <;> cases e <;> simp only [addL] at hg <;> try (cases hg; done)
  obtain ⟨a, xs, rfl, ha, da⟩ := hx.lst sm
  obtain ⟨b, ys, rfl, hb, db⟩ := hy.lst sm
  split at hg
  · cases hg
    rename_i hl
    exact op_catR pins s σ H _ _ v u Q I rx ry ⟨a, b, xs, ys, rfl, rfl, ha, hb, sz5 (by rw [da.length, db.length]; exact hl), fun p np => q p _ np (da.append db)⟩
  · cases hg
theorem op_mulL : OpR X (binaryOp .Mult) (RL2 X.K mulL) := by
  intro pins s σ H x y v u Q I rx ry h
  obtain ⟨F, d, e, z, sm, hx, hy, hg, q⟩ := h
  cases d <;> cases e <;> simp only [mulL] at hg <;> try (cases hg; done)
  obtain ⟨a, xs, rfl, ha, da⟩ := hx.lst sm
  obtain rfl := hy.int
  split at hg
  · cases hg
    rename_i k hl
    refine op_repR pins s σ H _ _ v u Q I rx ry ⟨a, k, xs, rfl, rfl, ha, by omega, by omega, ?_, fun p np => q p _ np (da.rep _)⟩
    rw [da.length]
    exact sz6 (Nat.le_trans (Nat.mul_le_mul hl.2.2 (show k.toNat ≤ 1000 by omega)) (by decide))
  · cases hg
theorem l_bin {op : Operator} {g : Dt → Dt → Option (List Dt)} (ho : OpR X (binaryOp op) (RL2 X.K g)) (ha : PE X a (tR X.K XE fa)) (hb : PE X b (tR X.K XE fb)) : PE X (.BinOp a op b pos) (tL X.K XE (lBin g fa fb)) := by
  refine (pe_op ho ha hb).weak fun σ H Q ⟨G, ρ, W, F, R, p⟩ => ?_
  refine ⟨G, ρ, W, F, R, p.of_bind.mono fun d W1 q v F1 H1 s1 R1 st1 => ⟨G, ρ, W1, F1, R1, q.of_bind.mono fun e W2 q2 y F2 H2 s2 R2 st2 => ?_⟩⟩
  obtain ⟨z, hz, q3⟩ := q2.of_ofO
  refine ⟨F2, d, e, z, R2.fh, st1 F2 H2 W2 s2 R2, st2 F2 H2 W2 (.refl _) R2, hz, fun np vs hp hv => ?_⟩
  have g : Gr0 X.K F2 H2 F2 (upd H2 np (.lst vs)) := .newH R2.fh hp
  exact q3 np vs F2 _ (s1.trans s2) (R2.grow g) (R2.fresh hp) upd_same (R2.fh.free hp) hv
end

/-! ### promises and calls -/
def spP (K : PySem.W.Frag) (n : Nat) (Fs : List Dt → Res Dt) : Sp := fun vs H Q _ => ∃ F ds, Same F H ∧ TabsF (tabsOf K) F H ∧ DqAll K F vs ds ∧ ds.length = n ∧ match Fs ds with
  | .ok r => ∀ v F' H', Gr0 K F H F' H' → Dq K F' v r → Q v H'
  | _ => False
/-- .. that gives a new list -/
def spL (K : PySem.W.Frag) (n : Nat) (Fs : List Dt → Res (List Dt)) : Sp := fun vs H Q _ => ∃ F ds, Same F H ∧ TabsF (tabsOf K) F H ∧ DqAll K F vs ds ∧ ds.length = n ∧ match Fs ds with
  | .ok r => ∀ p us F' H', Gr0 K F H F' H' → H p = none → H' p = some (.lst us) → F' p = none → DqAll K F' us r → Q (.ref p) H'
  | _ => False
/-- .. whose second argument is the town, which it may change -/
def spT (K : PySem.W.Frag) (n : Nat) (Fs : List Dt → List Dt → Res (Dt × List Dt)) : Sp := fun vs H Q _ => ∃ F d ds v0 t vr tv ws, vs = v0 :: .ref t :: vr ∧ Same F H ∧ TabsF (tabsOf K) F H ∧ Dq K F v0 d ∧ DqAll K F vr ds ∧ ds.length = n ∧
  H t = some (.lst tv) ∧ F t = none ∧ DqAll K F tv ws ∧ match Fs (d :: ds) ws with
  | .ok r => ∀ v F' H' tv', Gr K (fun a => a = t) F H F' H' → H' t = some (.lst tv') → F' t = none → DqAll K F' tv' r.2 → Dq K F' v r.1 → Q v H'
  | _ => False
def resT {α : Type} : Res α → Tw → Res (α × Tw)
  | .ok r, W => .ok (r, W)
  | _, _ => .bad
def eCall (n : Nat) (Fs : List Dt → Res Dt) (a : SA) : SE := fun ρ W => (a ρ W).bind fun p => if p.1.length = n then resT (Fs p.1) p.2 else .bad
def lCall (n : Nat) (Fs : List Dt → Res (List Dt)) (a : SA) : SA := fun ρ W => (a ρ W).bind fun p => if p.1.length = n then resT (Fs p.1) p.2 else .bad
def twnT : Res (Dt × List Dt) → Res (Dt × Tw)
  | .ok r => .ok (r.1, some r.2)
  | _ => .bad
def eCallT (n : Nat) (Fs : List Dt → List Dt → Res (Dt × List Dt)) (e : SE) (i : Nat) (a : SA) : SE := fun ρ W => (e ρ W).bind fun p => match ρ[i]? with
  | some (some .town) => (a ρ p.2).bind fun q => match q.2 with
    | some ws => if q.1.length = n then twnT (Fs (p.1 :: q.1) ws) else .bad
    | none => .bad
  | _ => .bad
theorem Pg.of_resT {α : Type} {XE : Str → Hp → Prop} {G : Gh} {r : Res α} {W : Tw} {P : α → Tw → Prop} (h : Pg XE G (resT r W) P) : ∃ a, r = .ok a ∧ P a W := by
  cases r with
  | ok a => exact ⟨a, rfl, h⟩
  | exc c => exact h.elim
  | bad => exact h.elim
theorem Rel.newTown {K : PySem.W.Frag} {G : Gh} {ρ : Sl} {W W' : Tw} {σ : L2.St} {F H F' H' : Hp} {t : Addr} {tv' : List V} {ws' : List Dt} (R : Rel K G ρ W σ F H) (hT : G.T = some t) (g : Gr K (fun a => a = t) F H F' H') (h1 : H' t = some (.lst tv')) (h2 : F' t = none) (h3 : DqAll K F' tv' ws') :
    Rel K G ρ (some ws') σ F' H' := by
  have noF : ∀ a, F a = none → H a ≠ none → F' a = none := fun a hF hH => Classical.byContradiction fun z => by
    rcases g.nw a z with q | q
    · exact q hF
    · exact hH q
  refine ⟨⟨R.gr.ff.trans g.ff, g.fh, fun a e => ?_, fun a o e n nt => ?_, fun a e => g.th a (R.gr.th a e), fun t => g.tb (R.gr.tb t)⟩, R.len, R.t0, R.t1, ?_, fun i sv e => ?_, R.dj, fun i a ha => ?_, fun e he => ?_, R.xt, g.tb R.tb, R.kk⟩
  · rcases g.nw a e with z | z
    · exact R.gr.nw a z
    · exact .inr (Classical.byContradiction fun q => R.gr.th a q z)
  · refine g.kp a o (R.gr.kp a o e n nt) (fun z => ?_) nt
    subst z
    rcases R.t1 a hT with q | q
    · exact n q
    · rw [e] at q; cases q
  · rw [hT]
    exact ⟨tv', h1, h2, h3⟩
  · obtain ⟨v, e1, e2⟩ := R.sl i sv e
    exact ⟨v, e1, e2.keep g.ff fun a o ho nt hf => g.kp a o ho (fun z => (R.fr i a hf).2.2.2 (by rw [hT, z])) nt⟩
  · obtain ⟨e1, e2, e3, e4⟩ := R.fr i a ha
    exact ⟨noF a e1 e2, g.th a e2, e3, e4⟩
  · obtain ⟨e1, e2, e3, e4⟩ := R.ex e he
    have hn : e.1 ≠ t := fun z => e3 (by rw [hT, z])
    exact ⟨g.kp _ _ e1 hn (R.xt e he), noF _ e2 (by rw [e1]; exact fun z => nomatch z), e3, e4⟩
theorem Pg.of_ite {α : Type} {XE : Str → Hp → Prop} {G : Gh} {c : Prop} [Decidable c] {r : Res (α × Tw)} {P : α → Tw → Prop} (h : Pg XE G (if c then r else .bad) P) : c ∧ Pg XE G r P := by
  by_cases hc : c
  · rw [if_pos hc] at h; exact ⟨hc, h⟩
  · rw [if_neg hc] at h; exact h.elim
section
variable {X : Cx} {XE : Str → Hp → Prop} {e a : Expr} {es : List Expr} {pos p pt : Pos} {fa : SE} {ga : SA} {k n : Nat} {f : Addr} {fd : FuncData} {ps : List Str} {x t : Str}
theorem call_of {Fs : List Dt → Res Dt} {E : XK} {σ : L2.St} {H : Hp} {Q : VK} (h : tE X.K XE (eCall n Fs ga) σ H Q) : tCall (spP X.K n Fs) [] E (tA X.K XE ga) σ H Q := by
  obtain ⟨G, ρ, W, F, R, p⟩ := h
  refine ⟨G, ρ, W, F, R, p.of_bind.mono fun ds W1 q vs F1 H1 s1 R1 hv => ?_⟩
  obtain ⟨hl, q⟩ := Pg.of_ite q
  obtain ⟨r, hr, q⟩ := Pg.of_resT q
  rw [List.append_nil]
  refine ⟨F1, ds, R1.fh, R1.tb, hv, hl, ?_⟩
  rw [hr]
  exact fun v F' H' g hw => q v F' H' (s1.trans g.ff) (R1.grow g) hw
theorem lcall_of {Fs : List Dt → Res (List Dt)} {E : XK} {σ : L2.St} {H : Hp} {Q : VK} (h : tL X.K XE (lCall n Fs ga) σ H Q) : tCall (spL X.K n Fs) [] E (tA X.K XE ga) σ H Q := by
  obtain ⟨G, ρ, W, F, R, p⟩ := h
  refine ⟨G, ρ, W, F, R, p.of_bind.mono fun ds W1 q vs F1 H1 s1 R1 hv => ?_⟩
  obtain ⟨hl, q⟩ := Pg.of_ite q
  obtain ⟨r, hr, q⟩ := Pg.of_resT q
  rw [List.append_nil]
  refine ⟨F1, ds, R1.fh, R1.tb, hv, hl, ?_⟩
  rw [hr]
  exact fun np us F' H' g hp h2 h3 hw => q np us F' H' (s1.trans g.ff) (R1.grow g) (R1.fresh hp) h2 h3 hw
theorem d_call {Fs : List Dt → Res Dt} (F : FnOk X.prog X.w X.K X.mg X.base CX0 k f fd ps (spP X.K n Fs)) (hr : Room k X.A) (hg : Gl X x) (hm : X.mg x = some (.ref f)) (hk : PySem.W.keepIn X.K (.ref f) = true) (hb : Binds X.K fd ps []) (ha : PA X (e :: es) (tA X.K XE ga))
    (hdb : (x == ("__debug__" : Str)) = false := by decide) (he : starEach (e :: es) X.env = (false, eval e X.env) :: starEach es X.env := by rfl) (hpl : (backTo pos (starEach es X.env)).any (·.1) = false := by rfl) :
    PE X (.Call (.Name x p) (e :: es) [] pos) (tE X.K XE (eCall n Fs ga)) := (pe_call F hr hg hm hk hb .nil pass0 ha hdb he hpl).weak fun _ _ _ => call_of
theorem l_call {Fs : List Dt → Res (List Dt)} (F : FnOk X.prog X.w X.K X.mg X.base CX0 k f fd ps (spL X.K n Fs)) (hr : Room k X.A) (hg : Gl X x) (hm : X.mg x = some (.ref f)) (hk : PySem.W.keepIn X.K (.ref f) = true) (hb : Binds X.K fd ps []) (ha : PA X (e :: es) (tA X.K XE ga))
    (hdb : (x == ("__debug__" : Str)) = false := by decide) (he : starEach (e :: es) X.env = (false, eval e X.env) :: starEach es X.env := by rfl) (hpl : (backTo pos (starEach es X.env)).any (·.1) = false := by rfl) :
    PE X (.Call (.Name x p) (e :: es) [] pos) (tL X.K XE (lCall n Fs ga)) := (pe_call F hr hg hm hk hb .nil pass0 ha hdb he hpl).weak fun _ _ _ => lcall_of
theorem d_callT {Fs : List Dt → List Dt → Res (Dt × List Dt)} {i : Nat} (F : FnOk X.prog X.w X.K X.mg X.base CX0 k f fd ps (spT X.K n Fs)) (hr : Room k X.A) (hg : Gl X x) (hm : X.mg x = some (.ref f)) (hk : PySem.W.keepIn X.K (.ref f) = true) (hb : Binds X.K fd ps [])
    (h0 : PE X a (tE X.K XE fa)) (ht : PE X (.Name t pt) (tVar i)) (ha : PA X es (tA X.K XE ga))
    (hdb : (x == ("__debug__" : Str)) = false := by decide) (he : starEach (a :: .Name t pt :: es) X.env = (false, eval a X.env) :: starEach (.Name t pt :: es) X.env := by rfl) (he2 : starEach (.Name t pt :: es) X.env = (false, eval (.Name t pt) X.env) :: starEach es X.env := by rfl) (hpl : (backTo pos (starEach (.Name t pt :: es) X.env)).any (·.1) = false := by rfl) :
    PE X (.Call (.Name x p) (a :: .Name t pt :: es) [] pos) (tE X.K XE (eCallT n Fs fa i ga)) := by
  refine (pe_call F hr hg hm hk hb .nil pass0 (pa_cons h0 (pa_cons ht ha he2) he) hdb he hpl).weak fun σ H Q h => ?_
  obtain ⟨G, ρ, W, F, R, p⟩ := h
  refine ⟨G, ρ, W, F, R, p.of_bind.mono fun d W1 q v0 F1 H1 s1 R1 hv0 => ?_⟩
  simp only at q
  split at q
  · rename_i ht
    obtain ⟨v, h1, t, h2, rfl⟩ := R1.sl i _ ht
    refine ⟨_, h1, ⟨G, ρ, W1, F1, R1, q.of_bind.mono fun ds W2 q2 vs F2 H2 s2 R2 hvs => ?_⟩⟩
    simp only at q2
    split at q2
    · rename_i ws
      obtain ⟨hl, q2⟩ := Pg.of_ite q2
      have tw := R2.tw
      rw [h2] at tw
      obtain ⟨tv, t1, t2, t3⟩ := tw
      refine ⟨F2, d, ds, v0, t, vs, tv, ws, by rw [List.append_nil], R2.fh, R2.tb, hv0.mono s2, hvs, hl, t1, t2, t3, ?_⟩
      cases hF : Fs (d :: ds) ws with
      | ok r =>
        rw [hF] at q2
        exact fun w F' H' tv' g k1 k2 k3 hw => q2 w F' H' ((s1.trans s2).trans g.ff) (R2.newTown (W' := some r.2) h2 g k1 k2 k3) hw
      | exc c => rw [hF] at q2; exact q2.elim
      | bad => rw [hF] at q2; exact q2.elim
    · exact q2.elim
  · exact q.elim
end
end Sx

namespace Sx
open PySem PySem.Spec PyProof.Rows L2

/-! ### lists and tuples alike (k: is it a tuple) -/
def SqK (k : Bool) (K : PySem.W.Frag) (H : Hp) (a : Addr) (xs : List V) : Prop := match k with
  | true => SqT K H a xs
  | false => SqL K H a xs
def HIt (k : Bool) (h : Heap) (it a : Addr) (i : Nat) : Prop := match k with
  | true => h.IsTupleIter it a i
  | false => h.IsListIter it a i
def HSq (k : Bool) (h : Heap) (a : Addr) (items : Array Value) : Prop := match k with
  | true => h.IsTuple a items
  | false => h.IsList a items
def itO (k : Bool) (a : Addr) : Obj := { cls := .type (if k then "tuple_iterator" else "list_iterator"), data := .fields #[.ref a, .int 0 0] }
theorem HIt.obj {k : Bool} {h : Heap} {it a : Addr} {i : Nat} (x : HIt k h it a i) : ∃ o, h.get? it = some o ∧ ∀ v, o.data ≠ .cell v := by
  cases k
  · obtain ⟨o, e, c, d⟩ := x
    exact ⟨o, e, fun v z => by rw [d] at z; cases z⟩
  · obtain ⟨o, e, c, d⟩ := x
    exact ⟨o, e, fun v z => by rw [d] at z; cases z⟩
theorem HIt.at {k : Bool} {h h' : Heap} {it a : Addr} {i : Nat} (x : HIt k h it a i) (q : ∀ o, h.get? it = some o → h'.get? it = some o) : HIt k h' it a i := by
  cases k
  · exact Heap.IsListIter.at x q
  · exact Heap.IsTupleIter.at x q
theorem HIt.new {k : Bool} {h : Heap} {it a : Addr} (e : h.get? it = some (itO k a)) : HIt k h it a 0 := by
  cases k
  · exact ⟨_, e, rfl, rfl⟩
  · exact ⟨_, e, rfl, rfl⟩
theorem beginsK (k : Bool) (a : Addr) (items : Array Value) : Begins (.ref a) (itO k a) (fun h => HSq k h a items) := by
  cases k
  · exact begins_list a items
  · exact begins_tuple a items
theorem drawsK (k : Bool) {prog : Program} {w : World} {A : Around} (hh : A.handled = none) (it a : Addr) (hne : a ≠ it) (items : Array Value) :
    Draws prog w A it [it, a] items.size (fun i v => items[i]? = some v) (fun i h => HIt k h it a i ∧ HSq k h a items) := by
  cases k
  · exact Draws.list hh it a hne items
  · exact Draws.tuple hh it a hne items
theorem sqK {X : Cx} {pins : List (Addr × Obj)} {σ : L2.St} {H : Hp} {s : Shared} {k : Bool} {a : Addr} {xs : List V} (I : Inv X pins σ H s) (h : SqK k X.K H a xs) : ∃ its : List Value, Vals xs its ∧ HSq k s.heap a its.toArray ∧ a < s.heap.objs.size := by
  cases k
  · obtain ⟨its, r, p, _⟩ := I.list h
    exact ⟨its, r, p.isList, p.lt⟩
  · obtain ⟨its, r, p, _⟩ := I.tuple h
    obtain ⟨o, ho, _⟩ := id p
    exact ⟨its, r, p, Heap.lt_size ho⟩
theorem sqK_inj {X : Cx} {pins : List (Addr × Obj)} {σ : L2.St} {H : Hp} {s : Shared} {k : Bool} {a : Addr} {xs ys : List V} (I : Inv X pins σ H s) (h : SqK k X.K H a xs) (h' : SqK k X.K H a ys) : xs = ys := by
  cases k
  · exact I.list_inj h h'
  · exact I.tuple_inj h h'

/-! ### enumerate(e) -/
theorem meets_enum1 {v : Value} {o : Obj} {H : Heap → Prop} (B : Begins v o H) :
    Meets (Builtin.«enumerate.__new__» ⟨[.type "enumerate", v], []⟩) (fun _ R s => H s.heap ∧
      R (.ok (.ret (.ref (s.heap.push o).objs.size))) { s with heap := (s.heap.push o).push { cls := .type "enumerate", data := .fields #[.none, .bool false, .ref s.heap.objs.size, rawInt 0, .none, .none] } }) :=
  .of_wp fun prog w A R s h => by
    obtain ⟨hp, g, d, tk, os⟩ := s; obtain ⟨h1, h⟩ := h
    have hsub := sub_enumerate
    have q1 : ∀ {A' : Around} {E : Value → Shared → Prop} {Q : Value → Shared → Prop}, Q (.ref hp.objs.size) ⟨hp.push o, g, d, tk, os⟩ → wpAny (model prog w) A' (pyIter v) Q E ⟨hp, g, d, tk, os⟩ :=
      fun q => B.iter prog w _ _ ⟨hp, g, d, tk, os⟩ _ h1 q
    wp_walk using q1
    refine wpAny_stack_any fun st => wpAny_pure ?_
    split
    · rename_i c _ _ _ _ _
      cases (c == Value.type "enumerate")
      · wp_walk using q1
        exact ⟨_, rfl, h⟩
      · wp_walk using q1
        exact ⟨_, rfl, h⟩
    · wp_walk using q1
      exact ⟨_, rfl, h⟩
theorem enum1_begins {prog : Program} {w : World} {A : Around} {E : Value → Shared → Prop} {s : Shared} {v : Value} {o : Obj} {H : Heap → Prop} {Q : Value → Shared → Prop} (B : Begins v o H) (h1 : H s.heap)
    (h : ∀ h', IsEnum h' (s.heap.objs.size + 1) s.heap.objs.size 0 .none → h'.get? s.heap.objs.size = some o → h'.objs.size = s.heap.objs.size + 2 →
      (∀ b o, s.heap.get? b = some o → h'.get? b = some o) → Q (.ref (s.heap.objs.size + 1)) { s with heap := h' }) :
    wpAny (model prog w) A (call (.type "enumerate") [v]) Q E s := by
  refine callType_new F.called_enumerate (by decide) (F.typeCall_enumerate_1 _) (F.newCall_enumerate_1 _) (fun obj => F.args_object_init_2 obj _) F.entry_enumerate_new
    (meets_enum1 B) ⟨h1, ?_⟩
  have hz : (s.heap.push o).objs.size = s.heap.objs.size + 1 := Heap.size_push ..
  show _ ∧ _
  rw [hz]
  have he : IsEnum ((s.heap.push o).push { cls := .type "enumerate", data := .fields #[.none, .bool false, .ref s.heap.objs.size, rawInt 0, .none, .none] }) (s.heap.objs.size + 1) s.heap.objs.size 0 .none := by
    have := Heap.get?_push_size (s.heap.push o) (o := { cls := .type "enumerate", data := .fields #[.none, .bool false, .ref s.heap.objs.size, rawInt 0, .none, .none] }) rfl
    rw [hz] at this; exact this
  refine ⟨⟨_, he, rfl⟩, h _ he (Heap.get?_push_of_some _ (Heap.get?_push_size _ B.free)) (by rw [Heap.size_push, hz]) fun b o x => Heap.get?_push_of_some _ (Heap.get?_push_of_some _ x)⟩
def IteK (k : Bool) (K : PySem.W.Frag) (a : Addr) : It :=
  ⟨fun i H => ∃ (xs : List V) (x : V), SqK k K H a xs ∧ xs[i]? = some x, fun i H v H' => ∃ T x, v = .ref T ∧ H T = none ∧ H' = upd H T (.tup [.int (i : Nat), x]) ∧ ∀ xs, SqK k K H a xs → xs[i]? = some x, fun i H => ∃ xs : List V, SqK k K H a xs ∧ xs.length = i⟩
theorem turn_enumK {P : Program} {w : World} {K : PySem.W.Frag} {elts : List Expr} {kk : Nat} {tpos : Pos} (k : Bool) (a e it : Addr) :
    Turn P w K (.Tuple elts kk tpos) (IteK k K a) [e, it] e (fun i h => (∃ old, IsEnum h e it (0 + (i : Int)) old) ∧ HIt k h it a i ∧ e ≠ it ∧ a ≠ it ∧ a ≠ e) where
  mem := by simp
  obj := fun i h st b hb => by
    obtain ⟨⟨old, he⟩, hi, _⟩ := st
    have e' : b = e ∨ b = it := by simpa using hb
    rcases e' with z | z
    · rw [z]; exact ⟨_, he, fun v q => nomatch q⟩
    · rw [z]; exact hi.obj
  keep := fun i h h' st kp => let ⟨⟨old, he⟩, hi, hne⟩ := st; ⟨⟨old, kp e (by simp) _ he⟩, hi.at fun o q => kp it (by simp) o q, hne⟩
  item := by
    intro X hP hw hK hc i pins s σ H E I hf st hg
    subst hP hw hK
    obtain ⟨⟨old, he⟩, hit, hne, hna, hnb⟩ := st
    obtain ⟨xs, x, hq, hx⟩ := hg
    obtain ⟨its, rv, p, hal⟩ := sqK I hq
    obtain ⟨u, hu, ru⟩ := rv.get hx
    have hlt : i < its.toArray.size := by
      obtain ⟨h1, _⟩ := List.getElem?_eq_some_iff.mp hu
      simpa using h1
    have hel : e < s.heap.objs.size := Heap.lt_size he
    have hil : it < s.heap.objs.size := by obtain ⟨_, q, _⟩ := hit.obj; exact Heap.lt_size q
    have hh : X.A.in1.handled = none := I.ok.hd hc
    have Wk := WalksT.enumFrom (prog := X.prog) (w := X.w) (A := X.A) 0 (drawsK k hh it a hna its.toArray) e hne (by simp [hne, Ne.symm hnb]) (by simp)
    refine Wk.item i s _ _ hlt ⟨⟨old, he⟩, hit, p⟩ fun T vals h' tk hP hsz hT hMid hk => ?_
    refine ⟨_, rfl, Wk.go elts kk tpos i T _ _ _ hMid fun h'' hSt hk2 => ?_⟩
    obtain ⟨t, y, hy, rfl⟩ := hP
    have ey : y = u := by
      have : its.toArray[i]? = some u := by simpa using hu
      rw [this] at hy
      exact (Option.some.inj hy).symm
    subst ey
    have nT : T ∉ [e, it] := Wk.apart i T h' hMid
    have hT2 : h''.IsTuple T #[.int (0 + (i : Int)) t, y] := hT.at fun o q => hk2 T o nT q
    have new : ObjOk X.prog X.w (upd H T (.tup [.int (i : Nat), x])) h'' T (.tup [.int (i : Nat), x]) :=
      ⟨by show 2 ≤ sizeLine; decide, [.int (0 + (i : Int)) t, y], .cons ⟨t, by rw [Int.zero_add]⟩ (.cons ru .nil), hT2⟩
    have I1 : Inv X pins σ (upd H T (.tup [.int (i : Nat), x])) { s with heap := h'', toks := tk } :=
      I.turnedNew (ch := [e, it]) (fun b ob hb q => hk2 b ob hb (hk b ob hb q)) hf hsz new
    refine ⟨.ref T, _, I1, rfl, ⟨_, x, rfl, I.hok.fresh hsz, rfl, fun ys hy => by rw [sqK_inj I hy hq]; exact hx⟩, ⟨hSt.1, hSt.2.1, hne, hna, hnb⟩, fun b hb => ?_⟩
    have hb' : b < s.heap.objs.size := by
      have e' : b = e ∨ b = it := by simpa using hb
      rcases e' with z | z
      · rw [z]; exact hel
      · rw [z]; exact hil
    rw [upd_ne (Nat.ne_of_lt (Nat.lt_of_lt_of_le hb' hsz))]
    exact (hf b hb).1
  done := by
    intro X hP hw hK hc i pins s σ H E I hf st hg
    subst hP hw hK
    obtain ⟨⟨old, he⟩, hit, hne, hna, hnb⟩ := st
    obtain ⟨xs, hq, hx⟩ := hg
    obtain ⟨its, rv, p, hal⟩ := sqK I hq
    have hl := rv.length
    have hh : X.A.in1.handled = none := I.ok.hd hc
    have Wk := WalksT.enumFrom (prog := X.prog) (w := X.w) (A := X.A) 0 (drawsK k hh it a hna its.toArray) e hne (by simp [hne, Ne.symm hnb]) (by simp)
    have hn : i = its.toArray.size := by rw [List.size_toArray]; omega
    subst hn
    refine Wk.done s _ _ ⟨⟨old, he⟩, hit, p⟩ fun h' tk hk => ⟨rfl, I.turnedL (ch := [e, it]) (fun b o hb q => hk b o hb q) hf⟩
  self := fun A i s Q E st h => let ⟨⟨_, he⟩, _⟩ := st; wpAny_pyIter_enum he h
def iEnumK (K : PySem.W.Frag) (ta : TA) : TI := fun σ H R => ta σ H fun vs H1 => ∃ k a xs, vs = [.ref a] ∧ SqK k K H1 a xs ∧ R (IteK k K a) H1
theorem pi_enumK {X : Cx} {e : Expr} {ta : TA} {p pos tpos : Pos} {elts : List Expr} {kk : Nat} (hg : Gl X "enumerate") (hm : X.mg "enumerate" = none) (ha : PA X [e] ta) (hs : starEach [e] X.env = [(false, eval e X.env)] := by rfl) :
    PI X (.Tuple elts kk tpos) (.Call (.Name "enumerate" p) [e] [] pos) (iEnumK X.K ta) := by
  refine ⟨fun pins s σ H R I h => ?_⟩
  refine Call_ (ld_blt I hg hm boot_enumerate (PyProof.Rows.callWith_type1 (thn (ha.run pos pins s σ H _ I h) fun us s1 ⟨vs, H1, I1, r1, q1⟩ => ?_) hs rfl))
  obtain ⟨k, a, xs, ex, hq, q⟩ := q1
  subst ex
  cases r1 with
  | cons r rr =>
    cases rr
    cases r
    obtain ⟨its, rv, p', hal⟩ := sqK I1 hq
    refine enum1_begins (beginsK k a its.toArray) p' fun h' he hit hsz hk => wpAny_pyIter_enum he ?_
    have I2 : Inv X pins σ H1 { s1 with heap := h' } := I1.kept (t' := s1.toks) hk
    refine ⟨s1.heap.objs.size + 1, [s1.heap.objs.size + 1, s1.heap.objs.size], _, _, H1, rfl, I2, turn_enumK k a (s1.heap.objs.size + 1) s1.heap.objs.size, ⟨⟨.none, he⟩, HIt.new hit, Nat.succ_ne_self _, Nat.ne_of_lt hal, Nat.ne_of_lt (Nat.lt_succ_of_lt hal)⟩, fun b hb => ?_, q⟩
    have e' : b = s1.heap.objs.size + 1 ∨ b = s1.heap.objs.size := by simpa using hb
    have hle : s1.heap.objs.size ≤ b := by
      rcases e' with z | z
      · rw [z]; exact Nat.le_add_right _ _
      · rw [z]; exact Nat.le_refl _
    exact I1.fpOk hle (I1.hok.fresh hle)

/-! ### zip(e, e2) -/
def ItzK (k l : Bool) (K : PySem.W.Frag) (a b : Addr) : It :=
  ⟨fun i H => ∃ (xs ys : List V) (x y : V), SqK k K H a xs ∧ SqK l K H b ys ∧ xs[i]? = some x ∧ ys[i]? = some y,
    fun i H v H' => ∃ T x y, v = .ref T ∧ H T = none ∧ H' = upd H T (.tup [x, y]) ∧ (∀ xs, SqK k K H a xs → xs[i]? = some x) ∧ ∀ ys, SqK l K H b ys → ys[i]? = some y,
    fun i H => ∃ xs ys : List V, SqK k K H a xs ∧ SqK l K H b ys ∧ i = min xs.length ys.length⟩
structure ZAp (z TI TO i1 i2 a b : Addr) : Prop where
  S : ZipSep2 z TI TO i1 i2 [i1, a] [i2, b]
  a1 : a ≠ i1
  b2 : b ≠ i2
theorem turn_zipK {P : Program} {w : World} {K : PySem.W.Frag} {elts : List Expr} {kk : Nat} {tpos : Pos} (k l : Bool) {a b z TI TO i1 i2 : Addr} (D : ZAp z TI TO i1 i2 a b) :
    Turn P w K (.Tuple elts kk tpos) (ItzK k l K a b) [z, TI, TO, i1, i2] z (fun i h => IsZip h z TI TO .none ∧ IsTupOf2 h TI (.ref i1) (.ref i2) ∧ (∃ x y, IsTupOf2 h TO x y) ∧ HIt k h i1 a i ∧ HIt l h i2 b i) where
  mem := by simp
  obj := fun i h st c hc => by
    obtain ⟨hz, hTI, ⟨x, y, hTO⟩, h1, h2⟩ := st
    have e' : c = z ∨ c = TI ∨ c = TO ∨ c = i1 ∨ c = i2 := by simpa using hc
    rcases e' with q | q | q | q | q
    · rw [q]; exact ⟨_, hz, fun v q => nomatch q⟩
    · rw [q]; exact ⟨_, hTI, fun v q => nomatch q⟩
    · rw [q]; exact ⟨_, hTO, fun v q => nomatch q⟩
    · rw [q]; exact h1.obj
    · rw [q]; exact h2.obj
  keep := fun i h h' st kp => by
    obtain ⟨hz, hTI, ⟨x, y, hTO⟩, h1, h2⟩ := st
    exact ⟨kp z (by simp) _ hz, kp TI (by simp) _ hTI, ⟨x, y, kp TO (by simp) _ hTO⟩, h1.at fun o q => kp i1 (by simp) o q, h2.at fun o q => kp i2 (by simp) o q⟩
  item := by
    intro X hP hw hK hc i pins s σ H E I hf st hg
    subst hP hw hK
    obtain ⟨hz, hTI, ⟨x0, y0, hTO⟩, h1, h2⟩ := st
    obtain ⟨xs, ys, x, y, hqx, hqy, hx, hy⟩ := hg
    obtain ⟨its, rv, p, _⟩ := sqK I hqx
    obtain ⟨its2, rv2, p2, _⟩ := sqK I hqy
    obtain ⟨u, hu, ru⟩ := rv.get hx
    obtain ⟨u2, hu2, ru2⟩ := rv2.get hy
    have hlt : i < min its.toArray.size its2.toArray.size := by
      obtain ⟨h1, _⟩ := List.getElem?_eq_some_iff.mp hu
      obtain ⟨h2, _⟩ := List.getElem?_eq_some_iff.mp hu2
      rw [List.size_toArray, List.size_toArray]
      omega
    have hh : X.A.in1.handled = none := I.ok.hd hc
    have Wk := WalksT.zipD2 (prog := X.prog) (w := X.w) (A := X.A) D.S (drawsK k hh i1 a D.a1 its.toArray) (drawsK l hh i2 b D.b2 its2.toArray)
    refine Wk.item i s _ _ hlt ⟨hz, hTI, ⟨_, _, hTO⟩, ⟨h1, p⟩, ⟨h2, p2⟩⟩ fun T vals h' tk hP hsz hT hMid hk => ?_
    refine ⟨_, rfl, Wk.go elts kk tpos i T _ _ _ hMid fun h'' hSt hk2 => ?_⟩
    obtain ⟨w1, w2, hy1, hy2, rfl⟩ := hP
    have e1 : w1 = u := by
      have : its.toArray[i]? = some u := by simpa using hu
      rw [this] at hy1
      exact (Option.some.inj hy1).symm
    have e2 : w2 = u2 := by
      have : its2.toArray[i]? = some u2 := by simpa using hu2
      rw [this] at hy2
      exact (Option.some.inj hy2).symm
    subst e1 e2
    have nT : T ∉ [z, TO, i1, i2] := Wk.apart i T h' hMid
    have hT2 : h''.IsTuple T #[w1, w2] := hT.at fun o q => hk2 T o nT q
    have sub : ∀ c, c ∈ [z, TO, i1, i2] → c ∈ [z, TI, TO, i1, i2] := fun c hcm => by
      have e' : c = z ∨ c = TO ∨ c = i1 ∨ c = i2 := by simpa using hcm
      rcases e' with q | q | q | q <;> simp [q]
    have new : ObjOk X.prog X.w (upd H T (.tup [x, y])) h'' T (.tup [x, y]) := ⟨by show 2 ≤ sizeLine; decide, [w1, w2], .cons ru (.cons ru2 .nil), hT2⟩
    have I1 : Inv X pins σ (upd H T (.tup [x, y])) { s with heap := h'', toks := tk } :=
      I.turnedNew (ch := [z, TI, TO, i1, i2]) (fun c ob hb q => hk2 c ob (fun z => hb (sub c z)) (hk c ob (fun z => hb (sub c z)) q)) hf hsz new
    refine ⟨.ref T, _, I1, rfl, ⟨_, x, y, rfl, I.hok.fresh hsz, rfl, fun l hl => by rw [sqK_inj I hl hqx]; exact hx, fun l hl => by rw [sqK_inj I hl hqy]; exact hy⟩, ⟨hSt.1, hSt.2.1, hSt.2.2.1, hSt.2.2.2.1.1, hSt.2.2.2.2.1⟩, fun c hcm => ?_⟩
    have hlt : c < s.heap.objs.size := by
      have e' : c = z ∨ c = TI ∨ c = TO ∨ c = i1 ∨ c = i2 := by simpa using hcm
      rcases e' with q | q | q | q | q
      · rw [q]; exact Heap.lt_size hz
      · rw [q]; exact Heap.lt_size hTI
      · rw [q]; exact Heap.lt_size hTO
      · rw [q]; obtain ⟨_, e1, _⟩ := h1.obj; exact Heap.lt_size e1
      · rw [q]; obtain ⟨_, e2, _⟩ := h2.obj; exact Heap.lt_size e2
    rw [upd_ne (Nat.ne_of_lt (Nat.lt_of_lt_of_le hlt hsz))]
    exact (hf c hcm).1
  done := by
    intro X hP hw hK hc i pins s σ H E I hf st hg
    subst hP hw hK
    obtain ⟨hz, hTI, ⟨x0, y0, hTO⟩, h1, h2⟩ := st
    obtain ⟨xs, ys, hqx, hqy, hend⟩ := hg
    obtain ⟨its, rv, p, _⟩ := sqK I hqx
    obtain ⟨its2, rv2, p2, _⟩ := sqK I hqy
    have l1 := rv.length
    have l2 := rv2.length
    have hh : X.A.in1.handled = none := I.ok.hd hc
    have Wk := WalksT.zipD2 (prog := X.prog) (w := X.w) (A := X.A) D.S (drawsK k hh i1 a D.a1 its.toArray) (drawsK l hh i2 b D.b2 its2.toArray)
    have hn : i = min its.toArray.size its2.toArray.size := by rw [List.size_toArray, List.size_toArray]; omega
    subst hn
    have sub : ∀ c, c ∈ [z, TO, i1, i2] → c ∈ [z, TI, TO, i1, i2] := fun c hcm => by
      have e' : c = z ∨ c = TO ∨ c = i1 ∨ c = i2 := by simpa using hcm
      rcases e' with q | q | q | q <;> simp [q]
    refine Wk.done s _ _ ⟨hz, hTI, ⟨_, _, hTO⟩, ⟨h1, p⟩, ⟨h2, p2⟩⟩ fun h' tk hk => ⟨rfl, I.turnedL (ch := [z, TI, TO, i1, i2]) (fun b o hb q => hk b o (fun z => hb (sub b z)) q) hf⟩
  self := fun A i s Q E st h => wpAny_pyIter_zip st.1 h
def iZipK (K : PySem.W.Frag) (ta : TA) : TI := fun σ H R => ta σ H fun vs H1 => ∃ k l a b xs ys, vs = [.ref a, .ref b] ∧ SqK k K H1 a xs ∧ SqK l K H1 b ys ∧ R (ItzK k l K a b) H1
theorem pi_zipK {X : Cx} {e e2 : Expr} {ta : TA} {p pos tpos : Pos} {elts : List Expr} {kk : Nat} (hg : Gl X "zip") (hm : X.mg "zip" = none) (ha : PA X [e, e2] ta)
    (hs : starEach [e, e2] X.env = (false, eval e X.env) :: starEach [e2] X.env := by rfl) (hpl : (backTo pos (starEach [e2] X.env)).any (·.1) = false := by rfl) :
    PI X (.Tuple elts kk tpos) (.Call (.Name "zip" p) [e, e2] [] pos) (iZipK X.K ta) := by
  refine ⟨fun pins s σ H R I h => ?_⟩
  refine Call_ (ld_blt I hg hm PyProof.Rows.boot_zip (PyProof.Rows.callWith_type1 (thn (ha.run pos pins s σ H _ I h) fun us s1 ⟨vs, H1, I1, r1, q1⟩ => ?_) hs hpl))
  obtain ⟨k, l, a, b, xs, ys, ex, hqx, hqy, q⟩ := q1
  subst ex
  cases r1 with
  | cons r rr =>
    cases rr with
    | cons r' rr =>
      cases rr
      cases r
      cases r'
      obtain ⟨its, rv, p1, la⟩ := sqK I1 hqx
      obtain ⟨its2, rv2, p2, lb⟩ := sqK I1 hqy
      refine zip_begins2 (beginsK k a its.toArray) (beginsK l b its2.toArray) p1 p2 fun h' hz hTI hTO h1 h2 hsz hk => wpAny_pyIter_zip hz ?_
      have I2 : Inv X pins σ H1 { s1 with heap := h' } := I1.kept (t' := s1.toks) hk
      have S : ZipSep2 (s1.heap.objs.size + 4) (s1.heap.objs.size + 2) (s1.heap.objs.size + 3) s1.heap.objs.size (s1.heap.objs.size + 1) [s1.heap.objs.size, a] [s1.heap.objs.size + 1, b] :=
        zip_sep2 (N := s1.heap.objs.size) (fp1 := [a]) (fp2 := [b]) (fun c hc => by rw [List.mem_singleton.mp hc]; exact la) (fun c hc => by rw [List.mem_singleton.mp hc]; exact lb)
      refine ⟨s1.heap.objs.size + 4, [s1.heap.objs.size + 4, s1.heap.objs.size + 2, s1.heap.objs.size + 3, s1.heap.objs.size, s1.heap.objs.size + 1], _, _, H1, rfl, I2, turn_zipK k l ⟨S, Nat.ne_of_lt la, Nat.ne_of_lt (Nat.lt_succ_of_lt lb)⟩, ⟨hz, hTI, ⟨_, _, hTO⟩, HIt.new h1, HIt.new h2⟩, fun c hcm => ?_, q⟩
      have e' : c = s1.heap.objs.size + 4 ∨ c = s1.heap.objs.size + 2 ∨ c = s1.heap.objs.size + 3 ∨ c = s1.heap.objs.size ∨ c = s1.heap.objs.size + 1 := by simpa using hcm
      have hle : s1.heap.objs.size ≤ c := by
        rcases e' with z | z | z | z | z
        · rw [z]; exact Nat.le_add_right _ _
        · rw [z]; exact Nat.le_add_right _ _
        · rw [z]; exact Nat.le_add_right _ _
        · rw [z]; exact Nat.le_refl _
        · rw [z]; exact Nat.le_add_right _ _
      exact I1.fpOk hle (I1.hok.fresh hle)
end Sx

namespace Sx
open PySem PySem.Spec PyProof.Rows L2

/-! ### what is walked -/
abbrev Rl := PySem.W.Frag → Hp → V → Dt → Prop
/-- an item that is a tuple to be taken apart -/
def Dw : Rl := fun K F v d => Dq K F v d ∨ ∃ a xs ds, v = .ref a ∧ d = .tuple ds ∧ SqT K F a xs ∧ DqAll K F xs ds
class Opn (D : Rl) : Prop where
  op : ∀ {K : PySem.W.Frag} {F : Hp} {v : V} {ds : List Dt}, D K F v (.tuple ds) → ∃ a xs, v = .ref a ∧ SqT K F a xs ∧ DqAll K F xs ds
instance : Opn Dq := ⟨fun h => by cases h with | tup a b c => exact ⟨_, _, rfl, a, b⟩⟩
instance : Opn Dw := ⟨fun h => by
  rcases h with h | ⟨a, xs, ds', e1, e2, h1, h2⟩
  · cases h with | tup a b c => exact ⟨_, _, rfl, a, b⟩
  · cases e2; exact ⟨a, xs, e1, h1, h2⟩⟩
def WalkD (D : Rl) (K : PySem.W.Frag) (F : Hp) (J : It) (ds : List Dt) : Prop := Walk J ds.length (fun H2 => ∃ F2, Same F F2 ∧ Same F2 H2)
  (fun i H2 x H3 => ∀ F2, Same F F2 → Same F2 H2 → ∃ F3 d, ds[i]? = some d ∧ Gr0 K F2 H2 F3 H3 ∧ D K F3 x d)
def tI (D : Rl) (K : PySem.W.Frag) (XE : Str → Hp → Prop) (f : SA) : TI := fun σ H R => ∃ G ρ W F, Rel K G ρ W σ F H ∧
  Pg XE G (f ρ W) fun ds W' => ∀ J F' H', Same F F' → Rel K G ρ W' σ F' H' → WalkD D K F' J ds → R J H'
end Sx
namespace L2
theorem PI.weak {X : Cx} {tg e : PySem.Expr} {t t' : TI} (h : PI X tg e t) (w : ∀ σ H R, t' σ H R → t σ H R) : PI X tg e t' := ⟨fun pins s σ H R I hq => h.run pins s σ H R I (w σ H R hq)⟩
theorem PG.weak {X : Cx} {tg : PySem.Expr} {t t' : TG} (h : PG X tg t) (w : ∀ v σ H Q, t' v σ H Q → t v σ H Q) : PG X tg t' := ⟨fun pins s σ H v u Q I r hq => h.run pins s σ H v u Q I r (w v σ H Q hq)⟩
theorem PGs.weak {X : Cx} {tg : List PySem.Expr} {t t' : TGs} (h : PGs X tg t) (w : ∀ v σ H Q, t' v σ H Q → t v σ H Q) : PGs X tg t' := ⟨fun pins s σ H v u Q I r hq => h.run pins s σ H v u Q I r (w v σ H Q hq)⟩
end L2
namespace Sx
open PySem PySem.Spec PyProof.Rows L2
def seqOf : Dt → Option (List Dt)
  | .list ds => some ds
  | .tuple ds => some ds
  | _ => none
def iSeq (e : SE) : SA := fun ρ W => (e ρ W).bind fun p => ofO (seqOf p.1) p.2
def rngD (n : Int) : List Dt := (List.range n.toNat).map fun (i : Nat) => PyData.int (i : Int)
def rngOf : List Dt → Option (List Dt)
  | [.int n] => if n ≤ 100000 ∧ -100000 ≤ n then some (rngD n) else none
  | _ => none
def iRng (a : SA) : SA := fun ρ W => (a ρ W).bind fun p => ofO (rngOf p.1) p.2
def enumD : Nat → List Dt → List Dt
  | _, [] => []
  | n, d :: ds => .tuple [.int n, d] :: enumD (n + 1) ds
def enumOf : List Dt → Option (List Dt)
  | [d] => (seqOf d).map (enumD 0)
  | _ => none
def iEnum' (a : SA) : SA := fun ρ W => (a ρ W).bind fun p => ofO (enumOf p.1) p.2
def zipD (a b : List Dt) : List Dt := List.zipWith (fun x y => .tuple [x, y]) a b
def zipOf : List Dt → Option (List Dt)
  | [a, b] => (seqOf a).bind fun x => (seqOf b).map fun y => zipD x y
  | _ => none
def iZip' (a : SA) : SA := fun ρ W => (a ρ W).bind fun p => ofO (zipOf p.1) p.2
theorem enumD_get : ∀ (ds : List Dt) (n i : Nat) (d : Dt), ds[i]? = some d → (enumD n ds)[i]? = some (.tuple [.int ((n + i : Nat) : Int), d])
  | [], _, _, _, h => by simp at h
  | x :: ds, n, 0, d, h => by simp at h; subst h; rfl
  | x :: ds, n, i + 1, d, h => by
    have := enumD_get ds (n + 1) i d (by simpa using h)
    show (enumD (n + 1) ds)[i]? = _
    rw [this, show n + 1 + i = n + (i + 1) by omega]
theorem enumD_len : ∀ (ds : List Dt) (n : Nat), (enumD n ds).length = ds.length
  | [], _ => rfl
  | x :: ds, n => by show (enumD (n + 1) ds).length + 1 = ds.length + 1; rw [enumD_len ds]
section
variable {K : PySem.W.Frag} {F : Hp} {a b : Addr} {xs ys : List V} {ds es : List Dt}
theorem wd_list (h : SqL K F a xs) (hd : DqAll K F xs ds) : WalkD Dq K F (Itl K a) ds := by
  unfold WalkD
  rw [← hd.length]
  refine Walk.mono (walk_list (xs := xs)) (fun H ⟨F2, s1, s2⟩ => (s1.trans s2).seq h) fun i H x H' hi ⟨F2, s1, s2⟩ ⟨e, hx⟩ F2' s1' s2' => ?_
  subst e
  obtain ⟨d, h1, h2⟩ := hd.get hx
  exact ⟨F2', d, h1, .refl s2', h2.mono s1'⟩
theorem wd_tup (h : SqT K F a xs) (hd : DqAll K F xs ds) : WalkD Dq K F (Itt K a) ds := by
  unfold WalkD
  rw [← hd.length]
  refine Walk.mono (walk_tup (xs := xs)) (fun H ⟨F2, s1, s2⟩ => sqT_mono (s1.trans s2) h) fun i H x H' hi ⟨F2, s1, s2⟩ ⟨e, hx⟩ F2' s1' s2' => ?_
  subst e
  obtain ⟨d, h1, h2⟩ := hd.get hx
  exact ⟨F2', d, h1, .refl s2', h2.mono s1'⟩
theorem wd_rng {n : Int} : WalkD Dq K F (Itr 0 n.toNat) (rngD n) := by
  unfold WalkD
  have e : (rngD n).length = n.toNat := by simp [rngD]
  rw [e]
  refine Walk.mono walk_range (fun H _ => trivial) fun i H x H' hi _ ⟨e, hx⟩ F2' s1' s2' => ?_
  subst e hx
  refine ⟨F2', .int i, by simp [rngD, hi], .refl s2', ?_⟩
  show Dq K F2' (V.int ((0 : Int) + (i : Int))) (.int (i : Int))
  rw [Int.zero_add]
  exact .int _
theorem sqK_of {k : Bool} {H : Hp} (s : Same F H) (h : (k = true ∧ SqT K F a xs) ∨ (k = false ∧ SqL K F a xs)) : SqK k K H a xs := by
  rcases h with ⟨rfl, h⟩ | ⟨rfl, h⟩
  · exact sqT_mono s h
  · exact s.seq h
theorem pair_end {F2 H : Hp} {T : Addr} {x y : V} {d e : Dt} (s : Same F2 H) (hT : H T = none) (h1 : Dq K F2 x d) (h2 : Dq K F2 y e) : ∃ F3, Gr0 K F2 H F3 (upd H T (.tup [x, y])) ∧ Dw K F3 (.ref T) (.tuple [d, e]) := by
  have g : Gr0 K F2 H (upd F2 T (.tup [x, y])) (upd H T (.tup [x, y])) := .new s hT
  exact ⟨_, g, .inr ⟨T, _, _, rfl, rfl, .inl (.inl upd_same), .cons (h1.mono g.ff) (.cons (h2.mono g.ff) .nil)⟩⟩
theorem wd_enum {k : Bool} (h : (k = true ∧ SqT K F a xs) ∨ (k = false ∧ SqL K F a xs)) (hd : DqAll K F xs ds) : WalkD Dw K F (IteK k K a) (enumD 0 ds) := by
  unfold WalkD
  rw [enumD_len, ← hd.length]
  refine ⟨fun i H hi ⟨F2, s1, s2⟩ => ⟨xs, xs[i], sqK_of (s1.trans s2) h, by simp [hi]⟩, fun H ⟨F2, s1, s2⟩ => ⟨xs, sqK_of (s1.trans s2) h, rfl⟩, fun i H v H' hi ⟨F2, s1, s2⟩ ⟨T, x, e1, hT, e2, hx⟩ F2' s1' s2' => ?_⟩
  subst e1 e2
  obtain ⟨d, h1, h2⟩ := hd.get (hx xs (sqK_of (s1.trans s2) h))
  obtain ⟨F3, g, hq⟩ := pair_end s2' hT (.int (i : Nat)) (h2.mono s1')
  refine ⟨F3, _, enumD_get ds 0 i d h1, g, ?_⟩
  rw [Nat.zero_add]
  exact hq
theorem wd_zip {k l : Bool} (h : (k = true ∧ SqT K F a xs) ∨ (k = false ∧ SqL K F a xs)) (h' : (l = true ∧ SqT K F b ys) ∨ (l = false ∧ SqL K F b ys)) (hd : DqAll K F xs ds) (he : DqAll K F ys es) : WalkD Dw K F (ItzK k l K a b) (zipD ds es) := by
  unfold WalkD
  have e : (zipD ds es).length = min xs.length ys.length := by rw [hd.length, he.length]; simp [zipD]
  rw [e]
  refine ⟨fun i H hi ⟨F2, s1, s2⟩ => ?_, fun H ⟨F2, s1, s2⟩ => ⟨xs, ys, sqK_of (s1.trans s2) h, sqK_of (s1.trans s2) h', rfl⟩, fun i H v H' hi ⟨F2, s1, s2⟩ ⟨T, x, y, e1, hT, e2, hx, hy⟩ F2' s1' s2' => ?_⟩
  · have h1 : i < xs.length := by omega
    have h2 : i < ys.length := by omega
    exact ⟨xs, ys, xs[i], ys[i], sqK_of (s1.trans s2) h, sqK_of (s1.trans s2) h', by simp [h1], by simp [h2]⟩
  · subst e1 e2
    obtain ⟨d, h1, h2⟩ := hd.get (hx xs (sqK_of (s1.trans s2) h))
    obtain ⟨c, h3, h4⟩ := he.get (hy ys (sqK_of (s1.trans s2) h'))
    obtain ⟨F3, g, hq⟩ := pair_end s2' hT (h2.mono s1') (h4.mono s1')
    exact ⟨F3, _, by simp [zipD, List.getElem?_zipWith, h1, h3], g, hq⟩
end
section
variable {X : Cx} {XE : Str → Hp → Prop} {tg e a b : Expr} {es : List Expr} {pos p tpos : Pos} {fa : SE} {ga : SA} {elts : List Expr} {kk : Nat}
/-- for x in (a list or a tuple) -/
theorem i_seq (he : PE X e (tE X.K XE fa)) : PI X tg e (tI Dq X.K XE (iSeq fa)) := by
  refine ⟨fun pins s σ H R I h => ?_⟩
  obtain ⟨G, ρ, W, F, Rl, p⟩ := h
  refine thn (he.run pins s σ H (fun x H1 => ∃ ds J, (∃ F1 W1, Same F F1 ∧ Rel X.K G ρ W1 σ F1 H1 ∧ ((J = Itl X.K (match x with | .ref a => a | _ => 0) ∧ ∃ a xs, x = .ref a ∧ SqL X.K F1 a xs ∧ DqAll X.K F1 xs ds) ∨ (J = Itt X.K (match x with | .ref a => a | _ => 0) ∧ ∃ a xs, x = .ref a ∧ SqT X.K F1 a xs ∧ DqAll X.K F1 xs ds)) ∧ (WalkD Dq X.K F1 J ds → R J H1))) I ⟨G, ρ, W, F, Rl, p.of_bind.mono fun d W1 q v F1 H1 s1 R1 hv => ?_⟩) fun v s1 ⟨x, H1, I1, r1, q1⟩ => ?_
  · obtain ⟨ds, hd, q2⟩ := q.of_ofO
    cases d <;> simp only [seqOf] at hd <;> try (cases hd; done)
    · cases hd
      cases hv with
      | lst h1 h2 => exact ⟨_, Itl X.K _, F1, W1, s1, R1, .inl ⟨rfl, _, _, rfl, h1, h2⟩, fun wk => q2 _ F1 H1 s1 R1 wk⟩
    · cases hd
      cases hv with
      | tup h1 h2 => exact ⟨_, Itt X.K _, F1, W1, s1, R1, .inr ⟨rfl, _, _, rfl, h1, h2⟩, fun wk => q2 _ F1 H1 s1 R1 wk⟩
  · obtain ⟨ds, J, F1, W1, sm, R1, hJ | hJ, q⟩ := q1
    · obtain ⟨eJ, a, xs, rfl, ha, da⟩ := hJ
      cases r1
      subst eJ
      obtain ⟨its, rv, p, hz⟩ := I1.list (R1.fh.seq ha)
      refine wpAny_pyIter_list p.isList ?_
      refine ⟨s1.heap.objs.size, [s1.heap.objs.size], _, _, H1, rfl, I1.kept (t' := s1.toks) fun b o e => Heap.get?_push_of_some _ e, turn_list a _, ⟨_, Heap.get?_push_size _ rfl, rfl, rfl⟩, fun b hb => ?_, q (wd_list ha da)⟩
      have e : b = s1.heap.objs.size := by simpa using hb
      subst e
      exact I1.fpOk (Nat.le_refl _) (I1.hok.fresh (Nat.le_refl _))
    · obtain ⟨eJ, a, xs, rfl, ha, da⟩ := hJ
      cases r1
      subst eJ
      obtain ⟨its, rv, p, hz⟩ := I1.tuple (sqT_mono R1.fh ha)
      refine wpAny_pyIter_tuple (show s1.heap.IsTuple a its.toArray from p) ?_
      refine ⟨s1.heap.objs.size, [s1.heap.objs.size], _, _, H1, rfl, I1.kept (t' := s1.toks) fun b o e => Heap.get?_push_of_some _ e, turn_tuple a _, ⟨_, Heap.get?_push_size _ rfl, rfl, rfl⟩, fun b hb => ?_, q (wd_tup ha da)⟩
      have e : b = s1.heap.objs.size := by simpa using hb
      subst e
      exact I1.fpOk (Nat.le_refl _) (I1.hok.fresh (Nat.le_refl _))
theorem i_rng (hg : Gl X "range") (hm : X.mg "range" = none) (ha : PA X [a] (tA X.K XE ga)) (hs : starEach [a] X.env = [(false, eval a X.env)] := by rfl) : PI X tg (.Call (.Name "range" p) [a] [] pos) (tI Dq X.K XE (iRng ga)) := by
  refine (pi_range1 hg hm ha hs).weak fun σ H R ⟨G, ρ, W, F, Rl, p⟩ => ⟨G, ρ, W, F, Rl, p.of_bind.mono fun ds W1 q vs F1 H1 s1 R1 hv => ?_⟩
  obtain ⟨zs, hz, q2⟩ := q.of_ofO
  rcases ds with _ | ⟨d, _ | ⟨d2, ds⟩⟩
  · cases hz
  · cases d <;> simp only [rngOf] at hz <;> try (cases hz; done)
    split at hz
    · cases hz
      rename_i n hn
      cases hv with
      | cons h1 h2 =>
        cases h2
        cases h1
        exact ⟨n, rfl, by omega, by omega, q2 _ F1 H1 s1 R1 wd_rng⟩
    · cases hz
  · cases d <;> cases hz
/-- what stands for a sequence -/
theorem seq_of {K : PySem.W.Frag} {F : Hp} {v : V} {d : Dt} {ds : List Dt} (h : Dq K F v d) (e : seqOf d = some ds) : ∃ (k : Bool) (a : Addr) (xs : List V), v = .ref a ∧ ((k = true ∧ SqT K F a xs) ∨ (k = false ∧ SqL K F a xs)) ∧ DqAll K F xs ds := by
  cases h <;> simp only [seqOf] at e <;> try (cases e; done)
  · cases e; exact ⟨false, _, _, rfl, .inr ⟨rfl, by assumption⟩, by assumption⟩
  · cases e; exact ⟨true, _, _, rfl, .inl ⟨rfl, by assumption⟩, by assumption⟩
theorem i_enum (hg : Gl X "enumerate") (hm : X.mg "enumerate" = none) (ha : PA X [e] (tA X.K XE ga)) (hs : starEach [e] X.env = [(false, eval e X.env)] := by rfl) : PI X (.Tuple elts kk tpos) (.Call (.Name "enumerate" p) [e] [] pos) (tI Dw X.K XE (iEnum' ga)) := by
  refine (pi_enumK hg hm ha hs).weak fun σ H R ⟨G, ρ, W, F, Rl, p⟩ => ⟨G, ρ, W, F, Rl, p.of_bind.mono fun ds W1 q vs F1 H1 s1 R1 hv => ?_⟩
  obtain ⟨zs, hz, q2⟩ := q.of_ofO
  rcases ds with _ | ⟨d, _ | ⟨d2, ds⟩⟩
  · cases hz
  · have hz : (seqOf d).map (enumD 0) = some zs := hz
    cases hq : seqOf d with
    | none => rw [hq] at hz; cases hz
    | some es =>
      rw [hq] at hz
      cases hz
      cases hv with
      | cons h1 h2 =>
        cases h2
        obtain ⟨k, a, xs, rfl, hs, hd⟩ := seq_of h1 hq
        exact ⟨k, a, xs, rfl, sqK_of R1.fh hs, q2 _ F1 H1 s1 R1 (wd_enum hs hd)⟩
  · cases hz
theorem i_zip (hg : Gl X "zip") (hm : X.mg "zip" = none) (ha : PA X [a, b] (tA X.K XE ga))
    (hs : starEach [a, b] X.env = (false, eval a X.env) :: starEach [b] X.env := by rfl) (hpl : (backTo pos (starEach [b] X.env)).any (·.1) = false := by rfl) : PI X (.Tuple elts kk tpos) (.Call (.Name "zip" p) [a, b] [] pos) (tI Dw X.K XE (iZip' ga)) := by
  refine (pi_zipK hg hm ha hs hpl).weak fun σ H R ⟨G, ρ, W, F, Rl, p⟩ => ⟨G, ρ, W, F, Rl, p.of_bind.mono fun ds W1 q vs F1 H1 s1 R1 hv => ?_⟩
  obtain ⟨zs, hz, q2⟩ := q.of_ofO
  rcases ds with _ | ⟨d, _ | ⟨d2, _ | ⟨d3, ds⟩⟩⟩
  · cases hz
  · cases hz
  · have hz : ((seqOf d).bind fun x => (seqOf d2).map fun y => zipD x y) = some zs := hz
    cases hq : seqOf d with
    | none => rw [hq] at hz; cases hz
    | some es =>
      rw [hq] at hz
      have hz : ((seqOf d2).map fun y => zipD es y) = some zs := hz
      cases hq2 : seqOf d2 with
      | none => rw [hq2] at hz; cases hz
      | some es2 =>
        rw [hq2] at hz
        cases hz
        cases hv with
        | cons h1 h2 =>
          cases h2 with
          | cons h2 h3 =>
            cases h3
            obtain ⟨k, a, xs, rfl, hs, hd⟩ := seq_of h1 hq
            obtain ⟨l, b, ys, rfl, hs', hd'⟩ := seq_of h2 hq2
            exact ⟨k, l, a, b, xs, ys, rfl, sqK_of R1.fh hs, sqK_of R1.fh hs', q2 _ F1 H1 s1 R1 (wd_zip hs hs' hd hd')⟩
  · cases hz
end

/-! ### targets -/
abbrev SG := Dt → Sl → Option Sl
def gN (i : Nat) : SG := fun d ρ => if i < ρ.length then some (ρ.set i (some (.d d))) else none
abbrev SGs := List Dt → Sl → Option Sl
def gsNil : SGs := fun ds ρ => match ds with
  | [] => some ρ
  | _ => none
def gsCons (g : SG) (gs : SGs) : SGs := fun ds ρ => match ds with
  | d :: ds => (g d ρ).bind (gs ds)
  | [] => none
def gTu (n : Nat) (gs : SGs) : SG := fun d ρ => match d with
  | .tuple ds => if ds.length = n then gs ds ρ else none
  | _ => none
def tG (D : Rl) (K : PySem.W.Frag) (is : List Nat) (g : SG) : TG := fun v σ H Q => ∃ G ρ W F d ρ', Rel K G ρ W σ F H ∧ D K F v d ∧ g d ρ = some ρ' ∧
  ((∀ j, j ∉ is → ρ'[j]? = ρ[j]?) → ∀ σ', σ'.length = σ.length → (∀ j, j ∉ is → σ'[j]? = σ[j]?) → Rel K G ρ' W σ' F H → Q σ' H)
def tGs (K : PySem.W.Frag) (is : List Nat) (g : SGs) : TGs := fun vs σ H Q => ∃ G ρ W F ds ρ', Rel K G ρ W σ F H ∧ DqAll K F vs ds ∧ g ds ρ = some ρ' ∧
  ((∀ j, j ∉ is → ρ'[j]? = ρ[j]?) → ∀ σ', σ'.length = σ.length → (∀ j, j ∉ is → σ'[j]? = σ[j]?) → Rel K G ρ' W σ' F H → Q σ' H)
theorem Rel.setD {K : PySem.W.Frag} {G : Gh} {ρ : Sl} {W : Tw} {σ : L2.St} {F H : Hp} {i : Nat} {v : V} {d : Dt} (R : Rel K G ρ W σ F H) (hi : i < ρ.length) (hv : Dq K F v d) : Rel K G (ρ.set i (some (.d d))) W (σ.set i (some v)) F H := by
  refine ⟨R.gr, by rw [List.length_set, List.length_set]; exact R.len, R.t0, R.t1, R.tw, fun j sv e => ?_, R.dj, R.fr, R.ex, R.xt, R.tb, R.kk⟩
  by_cases hj : i = j
  · subst hj
    rw [List.getElem?_set_self hi] at e
    cases e
    exact ⟨v, List.getElem?_set_self (by rw [← R.len]; exact hi), hv⟩
  · rw [List.getElem?_set_ne hj] at e ⊢
    exact R.sl j sv e
section
variable {X : Cx} {pos : Pos}
theorem g_name {i : Nat} {x : Str} (h : PG X (.Name x pos) (gName i)) : PG X (.Name x pos) (tG Dq X.K [i] (gN i)) := by
  refine h.weak fun v σ H Q ⟨G, ρ, W, F, d, ρ', R, hv, hg, q⟩ => ?_
  unfold gN at hg
  split at hg
  · cases hg
    rename_i hi
    exact q (fun j hj => by rw [List.getElem?_set_ne (by simp at hj; exact Ne.symm hj)]) (σ.set i (some v)) (by simp) (fun j hj => by rw [List.getElem?_set_ne (by simp at hj; exact Ne.symm hj)]) (R.setD hi hv)
  · cases hg
theorem gs_nil : PGs X [] (tGs X.K [] gsNil) := by
  refine pgs_nil.weak fun vs σ H Q ⟨G, ρ, W, F, ds, ρ', R, hv, hg, q⟩ => ?_
  cases hv with
  | nil =>
    cases hg
    exact ⟨rfl, q (fun _ _ => rfl) σ rfl (fun _ _ => rfl) R⟩
  | cons _ _ => cases hg
theorem gs_cons {e : Expr} {es : List Expr} {is js : List Nat} {g : SG} {gs : SGs} (h1 : PG X e (tG Dq X.K is g)) (h2 : PGs X es (tGs X.K js gs))
    (hs : (assignEach (e :: es) X.env).map (·.2) = assign e X.env :: (assignEach es X.env).map (·.2) := by rfl) : PGs X (e :: es) (tGs X.K (is ++ js) (gsCons g gs)) := by
  refine (pgs_cons h1 h2 hs).weak fun vs σ H Q ⟨G, ρ, W, F, ds, ρ', R, hv, hg, q⟩ => ?_
  cases hv with
  | nil => cases hg
  | @cons v vs d ds hv1 hv2 =>
    have hg : (g d ρ).bind (gs ds) = some ρ' := hg
    cases hg1 : g d ρ with
    | none => rw [hg1] at hg; cases hg
    | some ρ1 =>
      rw [hg1] at hg
      refine ⟨v, vs, rfl, G, ρ, W, F, d, ρ1, R, hv1, hg1, fun hk1 σ1 l1 e1 R1 => ⟨G, ρ1, W, F, ds, ρ', R1, hv2, hg, fun hk2 σ2 l2 e2 R2 => ?_⟩⟩
      refine q (fun j hj => ?_) σ2 (l2.trans l1) (fun j hj => ?_) R2
      · rw [List.mem_append, not_or] at hj
        exact (hk2 j hj.2).trans (hk1 j hj.1)
      · rw [List.mem_append, not_or] at hj
        exact (e2 j hj.2).trans (e1 j hj.1)
theorem g_tup {D : Rl} [hD : Opn D] {es : List Expr} {k : Nat} {is : List Nat} {gs : SGs} {n : Nat} (hc : X.calm = true) (h : PGs X es (tGs X.K is gs))
    (hn : (assignEach es X.env).length = n := by rfl) (hst : (assignEach es X.env).findIdx? (·.1) = none := by rfl) : PG X (.Tuple es k pos) (tG D X.K is (gTu n gs)) := by
  refine (pg_tup hc h hn hst).weak fun v σ H Q ⟨G, ρ, W, F, d, ρ', R, hv, hg, q⟩ => ?_
  cases d <;> simp only [gTu] at hg <;> try (cases hg; done)
  split at hg
  · rename_i hl
    obtain ⟨a, xs, rfl, h1, h2⟩ := hD.op hv
    exact ⟨_, _, rfl, sqT_mono R.fh h1, by rw [h2.length]; exact hl, G, ρ, W, F, _, ρ', R, h2, hg, q⟩
  · cases hg
end
end Sx

namespace Sx
open PySem PySem.Spec PyProof.Rows L2

/-! ### slots forgotten, things held aside -/
def wipeS (ρ : Sl) : List Nat → Sl
  | [] => ρ
  | v :: vs => (wipeS ρ vs).set v none
def wipeOk (ρ : Sl) (vs : List Nat) : Bool := vs.all fun j => match ρ[j]? with
  | some (some (.d _)) => true
  | some (some _) => false
  | _ => true
theorem wipeS_length (ρ : Sl) : ∀ vs : List Nat, (wipeS ρ vs).length = ρ.length
  | [] => rfl
  | v :: vs => by unfold wipeS; rw [List.length_set, wipeS_length ρ vs]
theorem wipeS_some {ρ : Sl} {i : Nat} {x : SV} : ∀ {vs : List Nat}, (wipeS ρ vs)[i]? = some (some x) → ρ[i]? = some (some x) ∧ i ∉ vs
  | [], h => ⟨h, by simp⟩
  | v :: vs, h => by
    unfold wipeS at h
    by_cases hi : v = i
    · subst hi
      by_cases hv : v < (wipeS ρ vs).length
      · rw [List.getElem?_set_self hv] at h; cases h
      · rw [List.getElem?_eq_none (by simpa using hv)] at h; cases h
    · rw [List.getElem?_set_ne hi] at h
      obtain ⟨h1, h2⟩ := wipeS_some h
      exact ⟨h1, by simp only [List.mem_cons, not_or]; exact ⟨fun e => hi e.symm, h2⟩⟩
theorem wipeS_out {ρ : Sl} {i : Nat} : ∀ {vs : List Nat}, i ∉ vs → (wipeS ρ vs)[i]? = ρ[i]?
  | [], _ => rfl
  | v :: vs, h => by
    simp only [List.mem_cons, not_or] at h
    unfold wipeS
    rw [List.getElem?_set_ne (Ne.symm h.1), wipeS_out h.2]
theorem wipe_in {σ : L2.St} {i : Nat} : ∀ {vs : List Nat}, i ∈ vs → (wipe σ vs)[i]? = if i < σ.length then some none else none
  | [], h => by simp at h
  | v :: vs, h => by
    unfold wipe
    by_cases hi : v = i
    · subst hi
      by_cases hv : v < σ.length
      · rw [List.getElem?_set_self (by rw [wipe_length]; exact hv), if_pos hv]
      · rw [List.getElem?_eq_none (by rw [List.length_set, wipe_length]; omega), if_neg hv]
    · rw [List.getElem?_set_ne hi]
      exact wipe_in (by rcases List.mem_cons.mp h with z | z; exact absurd z.symm hi; exact z)
theorem wipe_eq {σ σ2 : L2.St} {is vs : List Nat} (hl : σ2.length = (wipe σ vs).length) (h : ∀ j, j ∉ is → σ2[j]? = (wipe σ vs)[j]?) (hs : ∀ j ∈ is, j ∈ vs) : wipe σ2 vs = wipe σ vs := by
  rw [wipe_length] at hl
  refine List.ext_getElem? fun j => ?_
  by_cases hj : j ∈ vs
  · rw [wipe_in hj, wipe_in hj, hl]
  · rw [wipe_out hj, h j fun z => hj (hs j z)]
section
variable {K : PySem.W.Frag} {G : Gh} {ρ ρ' : Sl} {W W' : Tw} {σ σ' : L2.St} {F H F' H' : Hp} {p : Addr} {o o' : HO} {E : List (Addr × HO)}
theorem Rel.wiped (R : Rel K G ρ W σ F H) (vs : List Nat) : Rel K G (wipeS ρ vs) W (wipe σ vs) F H :=
  ⟨R.gr, by rw [wipeS_length, wipe_length]; exact R.len, R.t0, R.t1, R.tw, fun i sv e => by
    obtain ⟨h1, h2⟩ := wipeS_some e
    obtain ⟨v, h3, h4⟩ := R.sl i sv h1
    exact ⟨v, by rw [wipe_out h2]; exact h3, h4⟩, R.dj, R.fr, R.ex, R.xt, R.tb, R.kk⟩
theorem Rel.unwiped {vs : List Nat} (R : Rel K G ρ W σ F H) (R' : Rel K G (wipeS ρ vs) W' (wipe σ vs) F' H') (s : Same F F') (ok : wipeOk ρ vs = true) : Rel K G ρ W' σ F' H' :=
  ⟨R'.gr, R.len, R'.t0, R'.t1, R'.tw, fun i sv e => by
    by_cases hi : i ∈ vs
    · obtain ⟨v, h1, h2⟩ := R.sl i sv e
      have hk := List.all_eq_true.mp ok i hi
      rw [e] at hk
      cases sv <;> simp at hk
      exact ⟨v, h1, Dq.mono h2 s⟩
    · obtain ⟨v, h1, h2⟩ := R'.sl i sv (by rw [wipeS_out hi]; exact e)
      exact ⟨v, by rw [wipe_out hi] at h1; exact h1, h2⟩, R'.dj, R'.fr, R'.ex, R.xt, R'.tb, R.kk⟩
theorem Rel.restrict (R : Rel K G ρ' W σ' F H) (hl : ρ.length = σ.length) (h : ∀ (i : Nat) (sv : SV), ρ[i]? = some (some sv) → ρ'[i]? = some (some sv) ∧ σ'[i]? = σ[i]?) : Rel K G ρ W σ F H :=
  ⟨R.gr, hl, R.t0, R.t1, R.tw, fun i sv e => by
    obtain ⟨h1, h2⟩ := h i sv e
    obtain ⟨v, h3, h4⟩ := R.sl i sv h1
    exact ⟨v, by rw [← h2]; exact h3, h4⟩, R.dj, R.fr, R.ex, R.xt, R.tb, R.kk⟩
/-- a thing that none of the state's has is held aside -/
theorem Rel.aside (R : Rel K G ρ W σ F H) (hp : H p = some o) (hF : F p = none) (fr : Fresh G p) (nt : NT o := by first | exact nt_lst | exact nt_dK) : Rel K { G with ext := (p, o) :: G.ext } ρ W σ F H :=
  ⟨R.gr, R.len, R.t0, R.t1, R.tw, R.sl, R.dj, R.fr, fun e he => by
    rcases List.mem_cons.mp he with z | z
    · subst z
      exact ⟨hp, hF, fr.2.2.1, fr.2.1⟩
    · exact R.ex e z, fun e he => by
    rcases List.mem_cons.mp he with z | z
    · subst z; exact nt
    · exact R.xt e z, R.tb, R.kk⟩
theorem Rel.dropExt {e : Addr × HO} (R : Rel K { G with ext := e :: E } ρ W σ F H) : Rel K { G with ext := E } ρ W σ F H :=
  ⟨R.gr, R.len, R.t0, R.t1, R.tw, R.sl, R.dj, R.fr, fun e he => R.ex e (List.mem_cons_of_mem _ he), fun e he => R.xt e (List.mem_cons_of_mem _ he), R.tb, R.kk⟩
theorem Rel.setExt (R : Rel K { G with ext := (p, o) :: E } ρ W σ F H) (hn : ∀ e ∈ E, e.1 ≠ p) (h0 : G.H0 p = none) (nt : NT o := by exact nt_lst) (nt' : NT o' := by exact nt_lst) : Rel K { G with ext := (p, o') :: E } ρ W σ F (upd H p o') := by
  obtain ⟨e1, e2, e3, e4⟩ := R.ex (p, o) (List.mem_cons_self ..)
  simp only at e1 e2 e3 e4
  refine ⟨⟨R.gr.ff, same_mut R.fh e2, R.gr.nw, fun a u e n m => ?_, fun a e => ?_, fun t => (R.gr.tb t).mut e1 nt⟩, R.len, R.t0, R.t1, ?_, fun i sv e => ?_, R.dj, fun i a ha => ?_, fun e he => ?_, fun e he => ?_, R.tb.mut e1 nt, R.kk⟩
  · have : a ≠ p := fun z => by rw [z, h0] at e; cases e
    rw [upd_ne this]; exact R.gr.kp a u e n m
  · by_cases ha : a = p
    · subst ha; rw [upd_same]; exact fun z => nomatch z
    · rw [upd_ne ha]; exact R.gr.th a e
  · have t := R.tw
    revert t
    show TwOk K F H G.T W → TwOk K F (upd H p o') G.T W
    cases hT : G.T <;> cases W <;> intro t
    · trivial
    · exact t
    · exact t
    · obtain ⟨tv, h1, h2, h3⟩ := t
      exact ⟨tv, by rw [upd_ne (fun z => e3 (by rw [← z]; exact hT))]; exact h1, h2, h3⟩
  · obtain ⟨v, h1, h2⟩ := R.sl i sv e
    exact ⟨v, h1, h2.keep (.refl _) fun a u ho _ ha => by rw [upd_ne fun z => e4 i (by rw [← z]; exact ha)]; exact ho⟩
  · obtain ⟨h1, h2, h3, h4⟩ := R.fr i a ha
    exact ⟨h1, by rw [upd_ne fun z => e4 i (by rw [← z]; exact ha)]; exact h2, h3, h4⟩
  · rcases List.mem_cons.mp he with z | z
    · subst z
      exact ⟨upd_same, e2, e3, e4⟩
    · obtain ⟨h1, h2, h3, h4⟩ := R.ex e (List.mem_cons_of_mem _ z)
      exact ⟨by rw [upd_ne (hn e z)]; exact h1, h2, h3, h4⟩
  · rcases List.mem_cons.mp he with z | z
    · subst z; exact nt'
    · exact R.xt e (List.mem_cons_of_mem _ z)
end

/-! ### comprehensions -/
def nox {α : Type} : Res α → Res α
  | .ok a => .ok a
  | _ => .bad
@[simp] theorem nox_ok {α : Type} (a : α) : nox (.ok a) = .ok a := rfl
def cL (g : SG) (c : SB) (e : SE) (ρ0 : Sl) : List Dt → Tw → Res (List Dt × Tw)
  | [], W => .ok ([], W)
  | d :: ds, W => match g d ρ0 with
    | none => .bad
    | some ρ1 => (nox (c ρ1 W)).bind fun p => if p.1 = true then (nox (e ρ1 p.2)).bind fun q => (cL g c e ρ0 ds q.2).bind fun r => .ok (q.1 :: r.1, r.2) else cL g c e ρ0 ds p.2
def lComp (it : SA) (g : SG) (c : SB) (e : SE) (vs : List Nat) : SA := fun ρ W => (it ρ W).bind fun p => if p.1.length ≤ 100000 ∧ wipeOk ρ vs = true then cL g c e (wipeS ρ vs) p.1 p.2 else .bad
def bYes : SB := fun _ W => .ok (true, W)
abbrev X0 : Str → Hp → Prop := fun _ _ => False
theorem cL_cases {g : SG} {c : SB} {e : SE} {ρ0 : Sl} {d : Dt} {ds : List Dt} {W : Tw} {zs : List Dt} {Wf : Tw} (h : cL g c e ρ0 (d :: ds) W = .ok (zs, Wf)) :
    ∃ ρ1 b W1, g d ρ0 = some ρ1 ∧ c ρ1 W = .ok (b, W1) ∧ ((b = false ∧ cL g c e ρ0 ds W1 = .ok (zs, Wf)) ∨ (b = true ∧ ∃ z W2 r, e ρ1 W1 = .ok (z, W2) ∧ cL g c e ρ0 ds W2 = .ok (r, Wf) ∧ zs = z :: r)) := by
  unfold cL at h
  cases hg : g d ρ0 with
  | none => rw [hg] at h; cases h
  | some ρ1 =>
    simp only [hg] at h
    cases hc : c ρ1 W with
    | exc x => rw [hc] at h; cases h
    | bad => rw [hc] at h; cases h
    | ok p =>
      obtain ⟨b, W1⟩ := p
      rw [hc] at h
      simp only [nox_ok, Res.bind_ok] at h
      refine ⟨ρ1, b, W1, rfl, hc, ?_⟩
      cases b with
      | false => exact .inl ⟨rfl, by simpa using h⟩
      | true =>
        simp only [if_true] at h
        cases he : e ρ1 W1 with
        | exc x => rw [he] at h; cases h
        | bad => rw [he] at h; cases h
        | ok q =>
          obtain ⟨z, W2⟩ := q
          rw [he] at h
          simp only [nox_ok, Res.bind_ok] at h
          cases hr : cL g c e ρ0 ds W2 with
          | exc x => rw [hr] at h; cases h
          | bad => rw [hr] at h; cases h
          | ok r =>
            rw [hr] at h
            simp only [Res.bind_ok, Res.ok.injEq, Prod.mk.injEq] at h
            obtain ⟨h1, h2⟩ := h
            exact .inr ⟨rfl, z, W2, r.1, rfl, by rw [hr, ← h2], h1.symm⟩
theorem cL_noexc {g : SG} {c : SB} {e : SE} {ρ0 : Sl} : ∀ {ds : List Dt} {W : Tw} {x : Str}, cL g c e ρ0 ds W ≠ .exc x
  | [], W, x, h => by cases h
  | d :: ds, W, x, h => by
    unfold cL at h
    cases hg : g d ρ0 with
    | none => rw [hg] at h; cases h
    | some ρ1 =>
      simp only [hg] at h
      cases hc : c ρ1 W with
      | exc x => rw [hc] at h; cases h
      | bad => rw [hc] at h; cases h
      | ok p =>
        obtain ⟨b, W1⟩ := p
        rw [hc] at h
        simp only [nox_ok, Res.bind_ok] at h
        cases b with
        | false => exact cL_noexc (by simpa using h)
        | true =>
          simp only [if_true] at h
          cases he : e ρ1 W1 with
          | exc x => rw [he] at h; cases h
          | bad => rw [he] at h; cases h
          | ok q =>
            obtain ⟨z, W2⟩ := q
            rw [he] at h
            simp only [nox_ok, Res.bind_ok] at h
            cases hr : cL g c e ρ0 ds W2 with
            | exc x => exact cL_noexc hr
            | bad => rw [hr] at h; cases h
            | ok r => rw [hr] at h; cases h
section
variable {X : Cx} {XE : Str → Hp → Prop} {it : SA} {g : SG} {c : SB} {e : SE} {is vs : List Nat}
theorem comp_of {D0 : Rl} (hsub : ∀ j ∈ is, j ∈ vs) {σ : L2.St} {H : Hp} {Q : VK} (h : tL X.K XE (lComp it g c e vs) σ H Q) : tLc (tI D0 X.K XE it) (tG D0 X.K is g) (tT X.K X0 c) (tE X.K X0 e) vs σ H Q := by
  obtain ⟨G, ρ, W, F, R, p⟩ := h
  refine ⟨G, ρ, W, F, R, p.of_bind.mono fun ds W1 q J F1 H1 s1 R1 wk D hD => ?_⟩
  obtain ⟨⟨hlen, hok⟩, q⟩ := Pg.of_ite q
  simp only at hlen
  have hcl : ∃ zs Wf, cL g c e (wipeS ρ vs) ds W1 = .ok (zs, Wf) := by
    cases hz : cL g c e (wipeS ρ vs) ds W1 with
    | ok r => exact ⟨r.1, r.2, rfl⟩
    | exc x => exact absurd hz cL_noexc
    | bad => simp only [hz] at q; exact q.elim
  obtain ⟨zs, Wf, hcl⟩ := hcl
  simp only [hcl] at q
  have fr := R1.fresh hD
  have RD : Rel X.K { G with ext := (D, .lst []) :: G.ext } (wipeS ρ vs) W1 (wipe σ vs) F1 (upd H1 D (.lst [])) :=
    ((R1.grow (Gr.newH R1.fh hD)).aside upd_same (R1.fh.free hD) fr).wiped vs
  refine lc_it wk (fun i H2 => ∃ Wi Fi av acc rest, Rel X.K { G with ext := (D, .lst av) :: G.ext } (wipeS ρ vs) Wi (wipe σ vs) Fi H2 ∧ Same F1 Fi ∧ DqAll X.K Fi av acc ∧ cL g c e (wipeS ρ vs) (ds.drop i) Wi = .ok (rest, Wf) ∧ zs = acc ++ rest ∧ acc.length ≤ i)
    ⟨W1, F1, [], [], zs, RD, .refl _, .nil, by rw [List.drop_zero]; exact hcl, rfl, Nat.le_refl _⟩ (fun i H2 _ ⟨Wi, Fi, _, _, _, Ri, si, _⟩ => ⟨Fi, si, Ri.fh⟩) ?_ ?_
  · rintro i x H2 H3 hi ⟨Wi, Fi, av, acc, rest, Ri, si, da, hc, hzs, hal⟩ hy
    obtain ⟨F3, d, hd, gr, hx⟩ := hy Fi si Ri.fh
    have hdrop : ds.drop i = d :: ds.drop (i + 1) := by
      obtain ⟨h1, h2⟩ := List.getElem?_eq_some_iff.mp hd
      rw [List.drop_eq_getElem_cons h1, h2]
    rw [hdrop] at hc
    obtain ⟨ρ1, b, W2, hg, hb, hrest⟩ := cL_cases hc
    have R3 := Ri.grow gr
    refine ⟨_, wipeS ρ vs, Wi, F3, d, ρ1, R3, hx, hg, fun hk σ2 hl hj R4 => ⟨wipe_eq hl hj hsub, _, ρ1, Wi, F3, R4, ?_⟩⟩
    have back : ∀ {W5 : Tw} {F5 H5 : Hp} {av' : List V}, Rel X.K { G with ext := (D, .lst av') :: G.ext } ρ1 W5 σ2 F5 H5 → Rel X.K { G with ext := (D, .lst av') :: G.ext } (wipeS ρ vs) W5 (wipe σ vs) F5 H5 := fun R5 =>
      R5.restrict (by rw [wipeS_length, wipe_length]; exact R.len) fun j sv ej => by
        obtain ⟨_, hjv⟩ := wipeS_some ej
        exact ⟨by rw [hk j fun z => hjv (hsub j z)]; exact ej, hj j fun z => hjv (hsub j z)⟩
    rw [hb]
    intro F4 H4 s4 R5
    rcases hrest with ⟨rfl, hr⟩ | ⟨rfl, z, W3, r, he, hr, hz⟩
    · simp only [Bool.false_eq_true, if_false]
      exact ⟨W2, F4, av, acc, rest, back R5, (si.trans gr.ff).trans s4, da.mono (gr.ff.trans s4), hr, hzs, by omega⟩
    · simp only [if_true]
      refine ⟨_, ρ1, W2, F4, R5, ?_⟩
      rw [he]
      intro v F5 H5 s5 R6 hv
      obtain ⟨x1, x2, x3, x4⟩ := R6.ex (D, .lst av) (List.mem_cons_self ..)
      have sF : Same Fi F5 := (gr.ff.trans s4).trans s5
      have hle : acc.length < 100000 := by omega
      refine ⟨av, x1, Nat.lt_of_lt_of_le (by rw [da.length]; exact hle) (sz5 (Nat.le_refl _)), W3, F5, av ++ [v], acc ++ [z], r, back (R6.setExt fr.2.2.2 fr.1), si.trans sF, (da.mono sF).append (.one hv), hr, ?_, ?_⟩
      · rw [hzs, hz, List.append_assoc]; rfl
      · rw [List.length_append, List.length_singleton]; omega
  · rintro H2 ⟨Wi, Fi, av, acc, rest, Ri, si, da, hc, hzs, hal⟩
    rw [List.drop_length] at hc
    have hc : Res.ok (([] : List Dt), Wi) = .ok (rest, Wf) := hc
    cases hc
    rw [List.append_nil] at hzs
    subst hzs
    obtain ⟨x1, x2, x3, x4⟩ := Ri.ex (D, .lst av) (List.mem_cons_self ..)
    exact q D av Fi H2 (s1.trans si) (R1.unwiped Ri.dropExt si hok) fr x1 x2 da
variable {elt tg iter : Expr} {ifs : List Expr} {scope : Scope} {own : List (Str × Nat)} {pos : Pos}
theorem l_comp {D0 : Rl} (hc : X.calm = true) (hN : X.N.Nodup) (hi : PI X tg iter (tI D0 X.K XE it)) (ok : BlkOk X.N X.env.scope scope own)
    (hg : ∀ (s : Shared) (H : Hp) (C : Addr) (cl : List (Str × Addr)) (fp : List Addr), PG (X.blk s H scope (compEnvC scope cl C X.env) fp) tg (tG D0 X.K is g)) (ht : ∀ (s : Shared) (H : Hp) (C : Addr) (cl : List (Str × Addr)) (fp : List Addr), PTs (X.blk s H scope (compEnvC scope cl C X.env) fp) ifs (tT X.K X0 c))
    (he : ∀ (s : Shared) (H : Hp) (C : Addr) (cl : List (Str × Addr)) (fp : List Addr), PE (X.blk s H scope (compEnvC scope cl C X.env) fp) elt (tE X.K X0 e)) (hsub : ∀ j ∈ is, j ∈ own.map (·.2)) (hs : ∀ x, foldedSetIterable iter X.env x = pure x := by intro _; rfl) :
    PE X (.ListComp elt [⟨tg, iter, ifs, 0⟩] scope pos) (tL X.K XE (lComp it g c e (own.map (·.2)))) := (pe_lc hc hN hi ok hg ht he hs).weak fun _ _ _ => comp_of hsub
theorem t_yes : PTs X [] (tT X.K XE bYes) := ⟨fun pins s σ H Q I ⟨G, ρ, W, F, R, p⟩ => pts_nil.run pins s σ H Q I (p F H (.refl _) R)⟩
theorem t_one {b : Expr} (h : PT X b (tT X.K XE c)) : PTs X [b] (tT X.K XE c) := pts_one h
end
end Sx

namespace Sx
open PySem PySem.Spec PyProof.Rows L2

/-! ### statements -/
inductive Out where
  | nx (ρ : Sl) (W : Tw) | rt (r : SV) (W : Tw) | rs (r : SV) (ρ : Sl) (W : Tw) | exc (c : Str) | bad
abbrev SS := Sl → Tw → Out
structure SameB (G G' : Gh) : Prop where
  T0 : G'.T0 = G.T0
  F0 : G'.F0 = G.F0
  H0 : G'.H0 = G.H0
  ext : G'.ext = G.ext
  K : G'.K = G.K
theorem SameB.refl (G : Gh) : SameB G G := ⟨rfl, rfl, rfl, rfl, rfl⟩
theorem SameB.trans {A B C : Gh} (a : SameB A B) (b : SameB B C) : SameB A C := ⟨b.T0.trans a.T0, b.F0.trans a.F0, b.H0.trans a.H0, b.ext.trans a.ext, b.K.trans a.K⟩
def RV (K : PySem.W.Frag) (G : Gh) (F H : Hp) (v : V) : SV → Prop
  | .d x => Dq K F v x
  | .own xs => ∃ p vs, v = .ref p ∧ G.H0 p = none ∧ H p = some (.lst vs) ∧ F p = none ∧ DqAll K F vs xs
  | .se L D U => ∃ a p q, v = .ref a ∧ (G.H0 a = none ∧ G.H0 p = none ∧ G.H0 q = none) ∧ (F a = none ∧ F p = none ∧ F q = none) ∧ SesAt K F H a p q L D U
  | _ => False
def Po (K : PySem.W.Frag) (XE : Str → Hp → Prop) (G : Gh) (F : Hp) (r : Out) (D : Ends) : Prop := match r with
  | .nx ρ' W' => ∀ G' σ' F' H', SameB G G' → Same F F' → Rel K G' ρ' W' σ' F' H' → D.nx σ' H'
  | .rt r W' => ∀ G' ρ' σ' v F' H', SameB G G' → Same F F' → Rel K G' ρ' W' σ' F' H' → RV K G' F' H' v r → D.rt v H'
  | .rs r ρ' W' => ∀ G' σ' v F' H', SameB G G' → Same F F' → Rel K G' ρ' W' σ' F' H' → RV K G' F' H' v r → D.rt v H'
  | .exc c => ∀ F' H', Gr G.K G.tm G.F0 G.H0 F' H' → XE c H'
  | .bad => False
def tS (K : PySem.W.Frag) (XE : Str → Hp → Prop) (f : SS) : TS := fun D σ H => ∃ G ρ W F, Rel K G ρ W σ F H ∧ Po K XE G F (f ρ W) D
theorem Po.shift {K : PySem.W.Frag} {XE : Str → Hp → Prop} {G G' : Gh} {F F' : Hp} {r : Out} {D : Ends} (h : Po K XE G F r D) (b : SameB G G') (s : Same F F') : Po K XE G' F' r D := by
  cases r with
  | nx ρ W => exact fun G2 σ2 F2 H2 b2 s2 R2 => h G2 σ2 F2 H2 (b.trans b2) (s.trans s2) R2
  | rt r W => exact fun G2 ρ2 σ2 v F2 H2 b2 s2 R2 => h G2 ρ2 σ2 v F2 H2 (b.trans b2) (s.trans s2) R2
  | rs r ρ W => exact fun G2 σ2 v F2 H2 b2 s2 R2 => h G2 σ2 v F2 H2 (b.trans b2) (s.trans s2) R2
  | exc c => exact fun F2 H2 g => h F2 H2 (by
      unfold Gh.tm at g ⊢
      rw [b.T0, b.F0, b.H0, b.K] at g
      exact g)
  | bad => exact h
def rOut {α : Type} (r : Res (α × Tw)) (k : α → Tw → Out) : Out := match r with
  | .ok p => k p.1 p.2
  | .exc c => .exc c
  | .bad => .bad
@[simp] theorem rOut_ok {α : Type} (p : α × Tw) (k : α → Tw → Out) : rOut (.ok p) k = k p.1 p.2 := rfl
theorem Po.of_rOut {α : Type} {K : PySem.W.Frag} {XE : Str → Hp → Prop} {G : Gh} {F : Hp} {r : Res (α × Tw)} {k : α → Tw → Out} {D : Ends} (h : Po K XE G F (rOut r k) D) : Pg XE G r fun a W' => Po K XE G F (k a W') D := by
  cases r with
  | ok p => exact h
  | exc c => exact h
  | bad => exact h
theorem Po.of_ite {K : PySem.W.Frag} {XE : Str → Hp → Prop} {G : Gh} {F : Hp} {c : Prop} [Decidable c] {r : Out} {D : Ends} (h : Po K XE G F (if c then r else .bad) D) : c ∧ Po K XE G F r D := by
  by_cases hc : c
  · rw [if_pos hc] at h; exact ⟨hc, h⟩
  · rw [if_neg hc] at h; exact h.elim
def sPass : SS := fun ρ W => .nx ρ W
def sSeq (a b : SS) : SS := fun ρ W => match a ρ W with
  | .nx ρ1 W1 => b ρ1 W1
  | r => r
def sNever : SS := fun _ _ => .bad
def sExpr (e : SE) : SS := fun ρ W => rOut (e ρ W) fun _ W1 => .nx ρ W1
def sRet (e : SE) : SS := fun ρ W => rOut (e ρ W) fun d W1 => .rt (.d d) W1
def sRetL (f : SA) : SS := fun ρ W => rOut (f ρ W) fun ds W1 => .rt (.own ds) W1
def sRetO (i : Nat) : SS := fun ρ W => match ρ[i]? with
  | some (some (.own xs)) => .rt (.own xs) W
  | _ => .bad
def sAsg (i : Nat) (e : SE) : SS := fun ρ W => rOut (e ρ W) fun d W1 => if i < ρ.length then .nx (ρ.set i (some (.d d))) W1 else .bad
def sAsgG (g : SG) (e : SE) : SS := fun ρ W => rOut (e ρ W) fun d W1 => match g d ρ with
  | some ρ' => .nx ρ' W1
  | none => .bad
def sOwn (i : Nat) (f : SA) : SS := fun ρ W => rOut (f ρ W) fun ds W1 => if i < ρ.length then .nx (ρ.set i (some (.own ds))) W1 else .bad
def sTown (i : Nat) (f : SA) : SS := fun ρ W => rOut (f ρ W) fun ds W1 => if i < ρ.length ∧ W1 = none then .nx (ρ.set i (some .town)) (some ds) else .bad
def sIf (c : SB) (a b : SS) : SS := fun ρ W => rOut (c ρ W) fun k W1 => if k = true then a ρ W1 else b ρ W1
def fL (g : SG) (body : SS) : List Dt → Sl → Tw → Out
  | [], ρ, W => .nx ρ W
  | d :: ds, ρ, W => match g d ρ with
    | none => .bad
    | some ρ1 => match body ρ1 W with
      | .nx ρ2 W2 => fL g body ds ρ2 W2
      | r => r
def sFor (it : SA) (g : SG) (body : SS) : SS := fun ρ W => rOut (it ρ W) fun ds W1 => fL g body ds ρ W1
def wL (c : SB) (body : SS) : Nat → Sl → Tw → Out
  | 0, _, _ => .bad
  | n + 1, ρ, W => rOut (c ρ W) fun k W1 => if k = true then (match body ρ W1 with
    | .nx ρ2 W2 => wL c body n ρ2 W2
    | r => r) else .nx ρ W1
def sWhile (fuel : Sl → Nat) (c : SB) (body : SS) : SS := fun ρ W => wL c body (fuel ρ) ρ W
def sApp (i : Nat) (e : SE) : SS := fun ρ W => match ρ[i]? with
  | some (some (.own xs)) => rOut (e ρ W) fun d W1 => if xs.length < 100000 then .nx (ρ.set i (some (.own (xs ++ [d])))) W1 else .bad
  | _ => .bad
def sExt (i : Nat) (f : SA) : SS := fun ρ W => match ρ[i]? with
  | some (some (.own xs)) => rOut (f ρ W) fun ds W1 => if xs.length + ds.length ≤ 100000 then .nx (ρ.set i (some (.own (xs ++ ds)))) W1 else .bad
  | _ => .bad
def setD (xs : List Dt) (k d : Dt) : Option (List Dt) := match k with
  | .int k => (ixN xs.length k).map fun j => xs.set j d
  | _ => none
def nxO (i : Nat) (o : Option (List Dt)) (ρ : Sl) (W : Tw) : Out := match o with
  | some ys => .nx (ρ.set i (some (.own ys))) W
  | none => .bad
def nxT (o : Option (List Dt)) (ρ : Sl) : Out := match o with
  | some ys => .nx ρ (some ys)
  | none => .bad
def sSet (i : Nat) (k e : SE) : SS := fun ρ W => match ρ[i]? with
  | some (some (.own xs)) => rOut (e ρ W) fun d W1 => rOut (k ρ W1) fun kd W2 => nxO i (setD xs kd d) ρ W2
  | _ => .bad
def sSetT (i : Nat) (k e : SE) : SS := fun ρ W => match ρ[i]? with
  | some (some .town) => rOut (e ρ W) fun d W1 => rOut (k ρ W1) fun kd W2 => match W2 with
    | some ws => nxT (setD ws kd d) ρ
    | none => .bad
  | _ => .bad
def eIxT (i : Nat) (k : SE) : SE := fun ρ W => match ρ[i]? with
  | some (some .town) => (k ρ W).bind fun p => match p.2 with
    | some ws => ofO (ixD (.list ws) p.1) p.2
    | none => .bad
  | _ => .bad
def frzS (i : Nat) (ρ : Sl) : Sl := match ρ[i]? with
  | some (some (.own xs)) => ρ.set i (some (.d (.list xs)))
  | _ => ρ
section
variable {K : PySem.W.Frag} {G : Gh} {ρ : Sl} {W : Tw} {σ : L2.St} {F H : Hp}
def Gh.own (G : Gh) (i : Nat) (p : Addr) : Gh := { G with fp := fun j => if j = i then [p] else G.fp j }
theorem Gh.own_same (G : Gh) (i : Nat) (p : Addr) : SameB G (G.own i p) := ⟨rfl, rfl, rfl, rfl, rfl⟩
/-- a new thing becomes slot i's own -/
theorem Rel.takeSv {i : Nat} {p : Addr} {o : HO} {sv : SV} (R : Rel K G ρ W σ F H) (hi : i < ρ.length) (fr : Fresh G p) (hp : H p = some o) (hF : F p = none) (hsv : SlOk K G.T F H (.ref p) [p] sv) :
    Rel K (G.own i p) (ρ.set i (some sv)) W (σ.set i (some (.ref p))) F H := by
  obtain ⟨f1, f2, f3, f4⟩ := fr
  have hne : ∀ j a, a ∈ (G.own i p).fp j → (j = i ∧ a = p) ∨ (j ≠ i ∧ a ∈ G.fp j) := fun j a ha => by
    unfold Gh.own at ha
    simp only at ha
    by_cases hj : j = i
    · rw [if_pos hj] at ha; exact .inl ⟨hj, List.mem_singleton.mp ha⟩
    · rw [if_neg hj] at ha; exact .inr ⟨hj, ha⟩
  refine ⟨R.gr, by rw [List.length_set, List.length_set]; exact R.len, R.t0, R.t1, R.tw, fun j sv e => ?_, fun j k a ha hb => ?_, fun j a ha => ?_, fun e he => ?_, R.xt, R.tb, R.kk⟩
  · by_cases hj : i = j
    · subst hj
      rw [List.getElem?_set_self hi] at e
      cases e
      exact ⟨.ref p, List.getElem?_set_self (by rw [← R.len]; exact hi), by unfold Gh.own; simp only [if_true]; exact hsv⟩
    · rw [List.getElem?_set_ne hj] at e ⊢
      obtain ⟨v, h1, h2⟩ := R.sl j sv e
      exact ⟨v, h1, by unfold Gh.own; simp only [if_neg (Ne.symm hj)]; exact h2⟩
  · rcases hne j a ha with ⟨h1, h2⟩ | ⟨h1, h2⟩ <;> rcases hne k a hb with ⟨h3, h4⟩ | ⟨h3, h4⟩
    · rw [h1, h3]
    · rw [h2] at h4; exact absurd h4 (f2 k)
    · rw [h4] at h2; exact absurd h2 (f2 j)
    · exact R.dj j k a h2 h4
  · rcases hne j a ha with ⟨h1, h2⟩ | ⟨h1, h2⟩
    · rw [h2]
      have hpn : H p ≠ none := by
        rw [hp]
        exact fun z => nomatch z
      exact ⟨hF, hpn, f1, f3⟩
    · exact R.fr j a h2
  · obtain ⟨h1, h2, h3, h4⟩ := R.ex e he
    refine ⟨h1, h2, h3, fun j hj => ?_⟩
    rcases hne j _ hj with ⟨_, q⟩ | ⟨_, q⟩
    · exact f4 e he q
    · exact h4 j q
theorem Rel.takeOwn {i : Nat} {p : Addr} {vs : List V} {xs : List Dt} (R : Rel K G ρ W σ F H) (hi : i < ρ.length) (fr : Fresh G p) (hp : H p = some (.lst vs)) (hF : F p = none) (hd : DqAll K F vs xs) :
    Rel K (G.own i p) (ρ.set i (some (.own xs))) W (σ.set i (some (.ref p))) F H := R.takeSv hi fr hp hF ⟨p, vs, rfl, rfl, hp, hd⟩
/-- slot i's own list is changed -/
theorem Rel.mutOwn {i : Nat} {p : Addr} {xs ys : List Dt} {us : List V} (R : Rel K G ρ W σ F H) (hs : ρ[i]? = some (some (.own xs))) (hσ : σ[i]? = some (some (.ref p))) (hd : DqAll K F us ys) :
    Rel K G (ρ.set i (some (.own ys))) W σ F (upd H p (.lst us)) := by
  obtain ⟨v, h1, p', vs, h2, h3, h4, h5⟩ := R.sl i _ hs
  rw [hσ] at h1
  cases h1
  cases h2
  have hi : i < ρ.length := (List.getElem?_eq_some_iff.mp hs).1
  have hm : p ∈ G.fp i := by rw [h3]; simp
  obtain ⟨q1, q2, q3, q4⟩ := R.fr i p hm
  refine ⟨⟨R.gr.ff, same_mut R.fh q1, R.gr.nw, fun a u e n m => ?_, fun a e => ?_, fun t => (R.gr.tb t).mut h4 nt_lst⟩, by rw [List.length_set]; exact R.len, R.t0, R.t1, ?_, fun j sv e => ?_, R.dj, fun j a ha => ?_, fun e he => ?_, R.xt, R.tb.mut h4 nt_lst, R.kk⟩
  · rw [upd_ne (fun z => by rw [z, q3] at e; cases e)]
    exact R.gr.kp a u e n m
  · by_cases ha : a = p
    · subst ha; rw [upd_same]; exact fun z => nomatch z
    · rw [upd_ne ha]; exact R.gr.th a e
  · have t := R.tw
    revert t
    cases hT : G.T <;> cases W <;> intro t
    · trivial
    · exact t
    · exact t
    · obtain ⟨tv, h1, h2, h3⟩ := t
      exact ⟨tv, by rw [upd_ne (fun z => q4 (by rw [hT, z]))]; exact h1, h2, h3⟩
  · by_cases hj : i = j
    · subst hj
      rw [List.getElem?_set_self hi] at e
      cases e
      exact ⟨.ref p, hσ, p, us, rfl, h3, upd_same, hd⟩
    · rw [List.getElem?_set_ne hj] at e
      obtain ⟨v, h1, h2⟩ := R.sl j sv e
      exact ⟨v, h1, h2.keep (.refl _) fun a o ho _ ha => by rw [upd_ne fun z => hj (R.dj i j p hm (by rw [← z]; exact ha))]; exact ho⟩
  · obtain ⟨h1, h2, h3, h4⟩ := R.fr j a ha
    refine ⟨h1, ?_, h3, h4⟩
    by_cases hz : a = p
    · subst hz; rw [upd_same]; exact fun z => nomatch z
    · rw [upd_ne hz]; exact h2
  · obtain ⟨h1, h2, h3, h4⟩ := R.ex e he
    exact ⟨by rw [upd_ne (fun z => h4 i (by rw [z]; exact hm))]; exact h1, h2, h3, h4⟩
/-- slot i's own list is told to all -/
theorem Rel.frz (R : Rel K G ρ W σ F H) (i : Nat) : ∃ G' F', SameB G G' ∧ Same F F' ∧ Rel K G' (frzS i ρ) W σ F' H := by
  unfold frzS
  split
  · rename_i xs hs
    obtain ⟨v, h1, p, vs, rfl, h3, h4, h5⟩ := R.sl i _ hs
    have hi : i < ρ.length := (List.getElem?_eq_some_iff.mp hs).1
    have hm : p ∈ G.fp i := by rw [h3]; simp
    obtain ⟨q1, q2, q3, q4⟩ := R.fr i p hm
    have sF : Same F (upd F p (.lst vs)) := same_new q1
    refine ⟨{ G with fp := fun j => if j = i then [] else G.fp j }, upd F p (.lst vs), ⟨rfl, rfl, rfl, rfl, rfl⟩, sF, ⟨⟨R.gr.ff.trans sF, fun a u e => ?_, fun a e => ?_, R.gr.kp, R.gr.th, fun t => (R.gr.tb t).ff q1 h4 nt_lst⟩, by rw [List.length_set]; exact R.len, R.t0, R.t1, ?_, fun j sv e => ?_, fun j k a ha hb => ?_, fun j a ha => ?_, fun e he => ?_, R.xt, R.tb.ff q1 h4 nt_lst, R.kk⟩⟩
    · by_cases ha : a = p
      · subst ha; rw [upd_same] at e; cases e; exact h4
      · rw [upd_ne ha] at e; exact R.fh a u e
    · by_cases ha : a = p
      · subst ha; exact .inr q3
      · rw [upd_ne ha] at e; exact R.gr.nw a e
    · have t := R.tw
      revert t
      show TwOk K F H G.T W → TwOk K (upd F p (.lst vs)) H G.T W
      cases hT : G.T <;> cases W <;> intro t
      · trivial
      · exact t
      · exact t
      · obtain ⟨tv, t1, t2, t3⟩ := t
        exact ⟨tv, t1, by rw [upd_ne (fun z => q4 (by rw [hT, z]))]; exact t2, t3.mono sF⟩
    · by_cases hj : i = j
      · subst hj
        rw [List.getElem?_set_self hi] at e
        cases e
        exact ⟨.ref p, h1, .lst (.inl (.inl upd_same)) (h5.mono sF)⟩
      · rw [List.getElem?_set_ne hj] at e
        obtain ⟨v, e1, e2⟩ := R.sl j sv e
        refine ⟨v, e1, ?_⟩
        simp only [if_neg (Ne.symm hj)]
        exact e2.keep sF fun _ _ e _ _ => e
    · simp only at ha hb
      by_cases hj : j = i
      · rw [if_pos hj] at ha; cases ha
      · by_cases hk : k = i
        · rw [if_pos hk] at hb; cases hb
        · rw [if_neg hj] at ha; rw [if_neg hk] at hb; exact R.dj j k a ha hb
    · simp only at ha
      by_cases hj : j = i
      · rw [if_pos hj] at ha; cases ha
      · rw [if_neg hj] at ha
        obtain ⟨e1, e2, e3, e4⟩ := R.fr j a ha
        exact ⟨by rw [upd_ne (fun z => hj (R.dj j i p (by rw [← z]; exact ha) hm))]; exact e1, e2, e3, e4⟩
    · obtain ⟨e1, e2, e3, e4⟩ := R.ex e he
      refine ⟨e1, by rw [upd_ne (fun z => e4 i (by rw [z]; exact hm))]; exact e2, e3, fun j hj => ?_⟩
      simp only at hj
      by_cases hk : j = i
      · rw [if_pos hk] at hj; cases hj
      · rw [if_neg hk] at hj; exact e4 j hj
  · exact ⟨G, F, .refl G, .refl F, R⟩
end
section
variable {X : Cx} {XE : Str → Hp → Prop} {st : Stmt} {sts : List Stmt} {fa fb : SS} {e a b : Expr} {fe fk : SE} {fl : SA} {bc : SB} {pos : Pos}
theorem s_nil : PSs X [] (tS X.K XE sPass) := pss_nil.weak fun D σ H ⟨G, ρ, W, F, R, p⟩ => p G σ F H (.refl _) (.refl _) R
theorem s_one (h : PS X st (tS X.K XE fa)) : PSs X [st] (tS X.K XE fa) := pss_one h
theorem s_cons (h1 : PS X st (tS X.K XE fa)) (h2 : PSs X sts (tS X.K XE fb)) : PSs X (st :: sts) (tS X.K XE (sSeq fa fb)) := by
  refine (pss_cons h1 h2).weak fun D σ H ⟨G, ρ, W, F, R, p⟩ => ⟨G, ρ, W, F, R, ?_⟩
  unfold sSeq at p
  cases hf : fa ρ W with
  | nx ρ1 W1 =>
    rw [hf] at p
    exact fun G1 σ1 F1 H1 b1 s1 R1 => ⟨G1, ρ1, W1, F1, R1, p.shift b1 s1⟩
  | rt r W1 => rw [hf] at p; exact p
  | rs r ρ1 W1 => rw [hf] at p; exact p
  | exc c => rw [hf] at p; exact p
  | bad => rw [hf] at p; exact p
theorem s_never : PS X st (tS X.K XE sNever) := ps_never.weak fun D σ H ⟨G, ρ, W, F, R, p⟩ => p
theorem s_frz (i : Nat) (h : PS X st (tS X.K XE fa)) : PS X st (tS X.K XE (fun ρ W => fa (frzS i ρ) W)) := by
  refine h.weak fun D σ H ⟨G, ρ, W, F, R, p⟩ => ?_
  obtain ⟨G', F', b, s, R'⟩ := R.frz i
  exact ⟨G', frzS i ρ, W, F', R', p.shift b s⟩
theorem s_ret (he : PE X e (tE X.K XE fe)) : PS X (.Return (some e) pos) (tS X.K XE (sRet fe)) :=
  (ps_ret he).weak fun D σ H ⟨G, ρ, W, F, R, p⟩ => ⟨G, ρ, W, F, R, p.of_rOut.mono fun d W1 q v F1 H1 s1 R1 hv => q G ρ σ v F1 H1 (.refl _) s1 R1 hv⟩
theorem s_retL (he : PE X e (tL X.K XE fl)) : PS X (.Return (some e) pos) (tS X.K XE (sRetL fl)) :=
  (ps_ret he).weak fun D σ H ⟨G, ρ, W, F, R, p⟩ => ⟨G, ρ, W, F, R, p.of_rOut.mono fun ds W1 q np vs F1 H1 s1 R1 fr hp hF hv => q G ρ σ _ F1 H1 (.refl _) s1 R1 ⟨np, vs, rfl, fr.1, hp, hF, hv⟩⟩
theorem s_asg {i : Nat} (h : PS X st (tAsg (tE X.K XE fe) (gName i))) : PS X st (tS X.K XE (sAsg i fe)) :=
  h.weak fun D σ H ⟨G, ρ, W, F, R, p⟩ => ⟨G, ρ, W, F, R, p.of_rOut.mono fun d W1 q v F1 H1 s1 R1 hv => by
    obtain ⟨hi, q⟩ := Po.of_ite q
    exact q G _ F1 H1 (.refl _) s1 (R1.setD hi hv)⟩
theorem s_asgG {is : List Nat} {g : SG} (h : PS X st (tAsg (tE X.K XE fe) (tG Dq X.K is g))) : PS X st (tS X.K XE (sAsgG g fe)) :=
  h.weak fun D σ H ⟨G, ρ, W, F, R, p⟩ => ⟨G, ρ, W, F, R, p.of_rOut.mono fun d W1 q v F1 H1 s1 R1 hv => by
    split at q
    · rename_i ρ' hg
      exact ⟨G, ρ, W1, F1, d, ρ', R1, hv, hg, fun _ σ' _ _ R2 => q G σ' F1 H1 (.refl _) s1 R2⟩
    · exact q.elim⟩
theorem s_own {i : Nat} (h : PS X st (tAsg (tL X.K XE fl) (gName i))) : PS X st (tS X.K XE (sOwn i fl)) :=
  h.weak fun D σ H ⟨G, ρ, W, F, R, p⟩ => ⟨G, ρ, W, F, R, p.of_rOut.mono fun ds W1 q np vs F1 H1 s1 R1 fr hp hF hv => by
    obtain ⟨hi, q⟩ := Po.of_ite q
    exact q _ _ F1 H1 (G.own_same i np) s1 (R1.takeOwn hi fr hp hF hv)⟩
theorem s_town {i : Nat} (h : PS X st (tAsg (tL X.K XE fl) (gName i))) : PS X st (tS X.K XE (sTown i fl)) :=
  h.weak fun D σ H ⟨G, ρ, W, F, R, p⟩ => ⟨G, ρ, W, F, R, p.of_rOut.mono fun ds W1 q np vs F1 H1 s1 R1 fr hp hF hv => by
    obtain ⟨⟨hi, hW⟩, q'⟩ := Po.of_ite q
    clear q
    have q := q'
    clear q'
    subst hW
    obtain ⟨f1, f2, f3, f4⟩ := fr
    have hT : G.T = none := by
      have t := R1.tw
      cases hT : G.T with
      | none => rfl
      | some t' => rw [hT] at t; exact t.elim
    have hT0 : G.T0 = none := by
      cases h0 : G.T0 with
      | none => rfl
      | some t => rw [R1.t0 t h0] at hT; cases hT
    refine q { G with T := some np } _ F1 H1 ⟨rfl, rfl, rfl, rfl, rfl⟩ s1 ⟨R1.gr, by rw [List.length_set, List.length_set]; exact R1.len, fun t ht => (by rw [hT0] at ht; cases ht), fun t ht => (by cases ht; exact .inr f1), ⟨vs, hp, hF, hv⟩, fun j sv e => ?_, R1.dj, fun j a ha => ?_, fun e he => ?_, R1.xt, R1.tb, R1.kk⟩
    · by_cases hj : i = j
      · subst hj
        rw [List.getElem?_set_self hi] at e
        cases e
        exact ⟨.ref np, List.getElem?_set_self (by rw [← R1.len]; exact hi), np, rfl, rfl⟩
      · rw [List.getElem?_set_ne hj] at e ⊢
        obtain ⟨v, h1, h2⟩ := R1.sl j sv e
        refine ⟨v, h1, ?_⟩
        cases sv with
        | town => obtain ⟨t, h3, _⟩ := h2; rw [hT] at h3; cases h3
        | _ => exact h2
    · obtain ⟨e1, e2, e3, e4⟩ := R1.fr j a ha
      exact ⟨e1, e2, e3, fun z => f2 j (by cases z; exact ha)⟩
    · obtain ⟨e1, e2, e3, e4⟩ := R1.ex e he
      exact ⟨e1, e2, fun z => f4 e he (by cases z; rfl), e4⟩⟩
theorem s_if {c : Expr} {as bs : List Stmt} (hc : PT X c (tT X.K XE bc)) (ha : PSs X as (tS X.K XE fa)) (hb : PSs X bs (tS X.K XE fb)) : PS X (.If c as bs pos) (tS X.K XE (sIf bc fa fb)) :=
  (ps_if hc ha hb).weak fun D σ H ⟨G, ρ, W, F, R, p⟩ => ⟨G, ρ, W, F, R, p.of_rOut.mono fun k W1 q F1 H1 s1 R1 => by
    cases k with
    | true => exact ⟨G, ρ, W1, F1, R1, Po.shift q (.refl _) s1⟩
    | false => exact ⟨G, ρ, W1, F1, R1, Po.shift q (.refl _) s1⟩⟩
theorem s_for {D0 : Rl} {tg iter : Expr} {body : List Stmt} {is : List Nat} {g : SG} (hp : PassesOwn (model X.prog X.w) X.A X.env X.xe) (hc : X.calm = true) (hi : PI X tg iter (tI D0 X.K XE fl)) (hg : PG X tg (tG D0 X.K is g)) (hb : PSs X body (tS X.K XE fb))
    (hs : ∀ x, foldedSetIterable iter X.env x = pure x := by intro _; rfl) : PS X (.For tg iter body [] pos) (tS X.K XE (sFor fl g fb)) := by
  refine (ps_for hp hc hi hg hb hs).weak fun D σ H ⟨G, ρ, W, F, R, p⟩ => ⟨G, ρ, W, F, R, p.of_rOut.mono fun ds W1 q J F1 H1 s1 R1 wk => ?_⟩
  refine for_it wk (fun i σ' H' => ∃ G' ρ' W' F', SameB G G' ∧ Same F1 F' ∧ Rel X.K G' ρ' W' σ' F' H' ∧ Po X.K XE G' F' (fL g fb (ds.drop i) ρ' W') D) ⟨G, ρ, W1, F1, .refl _, .refl _, R1, Po.shift (by rw [List.drop_zero]; exact q) (.refl _) s1⟩ (fun i σ' H' _ ⟨G', ρ', W', F', _, si, Ri, _⟩ => ⟨F', si, Ri.fh⟩) ?_ ?_
  · rintro i x σ' H' H3 hi ⟨G', ρ', W', F', bi, si, Ri, po⟩ hy
    obtain ⟨F3, d, hd, gr, hx⟩ := hy F' si Ri.fh
    have hdrop : ds.drop i = d :: ds.drop (i + 1) := by
      obtain ⟨h1, h2⟩ := List.getElem?_eq_some_iff.mp hd
      rw [List.drop_eq_getElem_cons h1, h2]
    rw [hdrop] at po
    unfold fL at po
    cases hgd : g d ρ' with
    | none => simp only [hgd] at po; exact po.elim
    | some ρ1 =>
      simp only [hgd] at po
      refine ⟨G', ρ', W', F3, d, ρ1, Ri.grow gr, hx, hgd, fun _ σ2 _ _ R4 => ⟨G', ρ1, W', F3, R4, ?_⟩⟩
      cases hf : fb ρ1 W' with
      | nx ρ2 W2 =>
        simp only [hf] at po
        exact fun G2 σ3 F4 H4 b4 s4 R5 => ⟨G2, ρ2, W2, F4, bi.trans b4, (si.trans gr.ff).trans s4, R5, po.shift b4 (gr.ff.trans s4)⟩
      | rt r W2 =>
        simp only [hf] at po
        exact fun G2 ρ2 σ3 v F4 H4 b4 s4 R5 hv => po G2 ρ2 σ3 v F4 H4 b4 (gr.ff.trans s4) R5 hv
      | rs r ρ2 W2 =>
        simp only [hf] at po
        exact fun G2 σ3 v F4 H4 b4 s4 R5 hv => po G2 σ3 v F4 H4 b4 (gr.ff.trans s4) R5 hv
      | exc c => simp only [hf] at po; exact po
      | bad => simp only [hf] at po; exact po.elim
  · rintro σ' H' ⟨G', ρ', W', F', bi, si, Ri, po⟩
    rw [List.drop_length] at po
    exact po G' σ' F' H' (.refl _) (.refl _) Ri
theorem s_while {c : Expr} {body : List Stmt} {fuel : Sl → Nat} (hp : PassesOwn (model X.prog X.w) X.A X.env X.xe) (hc : PT X c (tT X.K XE bc)) (hb : PSs X body (tS X.K XE fb)) : PS X (.While c body [] pos) (tS X.K XE (sWhile fuel bc fb)) := by
  refine (ps_while hp hc hb).weak fun D σ H ⟨G, ρ, W, F, R, p⟩ => ⟨fun m σ' H' => ∃ G' ρ' W' F', Rel X.K G' ρ' W' σ' F' H' ∧ Po X.K XE G' F' (wL bc fb m ρ' W') D, ⟨fuel ρ, G, ρ, W, F, R, p⟩, ?_⟩
  rintro m σ' H' ⟨G', ρ', W', F', Ri, po⟩
  cases m with
  | zero => exact po.elim
  | succ m =>
    unfold wL at po
    refine ⟨G', ρ', W', F', Ri, po.of_rOut.mono fun k W1 q F1 H1 s1 R1 => ?_⟩
    cases k with
    | true =>
      simp only [if_true] at q
      refine ⟨fun σ2 H2 => ∃ G2 ρ2 W2 F2, Rel X.K G2 ρ2 W2 σ2 F2 H2 ∧ Po X.K XE G2 F2 (wL bc fb m ρ2 W2) D, fun σ2 H2 z => ⟨m, Nat.lt_succ_self m, z⟩, G', ρ', W1, F1, R1, ?_⟩
      cases hf : fb ρ' W1 with
      | nx ρ2 W2 =>
        simp only [hf] at q
        exact fun G2 σ3 F4 H4 b4 s4 R5 => ⟨G2, ρ2, W2, F4, R5, q.shift b4 (s1.trans s4)⟩
      | rt r W2 =>
        simp only [hf] at q
        exact fun G2 ρ2 σ3 v F4 H4 b4 s4 R5 hv => q G2 ρ2 σ3 v F4 H4 b4 (s1.trans s4) R5 hv
      | rs r ρ2 W2 =>
        simp only [hf] at q
        exact fun G2 σ3 v F4 H4 b4 s4 R5 hv => q G2 σ3 v F4 H4 b4 (s1.trans s4) R5 hv
      | exc c => simp only [hf] at q; exact q
      | bad => simp only [hf] at q; exact q.elim
    | false =>
      simp only [Bool.false_eq_true, if_false] at q ⊢
      exact q G' σ' F1 H1 (.refl _) s1 R1
end
end Sx

namespace Sx
open PySem PySem.Spec PyProof.Rows L2
theorem setD_all {K : PySem.W.Frag} {F : Hp} {vs : List V} {xs ys : List Dt} {v : V} {k d : Dt} (h : setD xs k d = some ys) (ha : DqAll K F vs xs) (hv : Dq K F v d) : ∃ (n : Int) (j : Nat), k = .int n ∧ ixN vs.length n = some j ∧ DqAll K F (vs.set j v) ys := by
  cases k <;> simp only [setD] at h <;> try (cases h; done)
  rename_i n
  cases hj : ixN xs.length n with
  | none => rw [hj] at h; cases h
  | some j =>
    rw [hj] at h
    cases h
    exact ⟨n, j, rfl, by rw [ha.length]; exact hj, ha.set j hv⟩
section
variable {X : Cx} {XE : Str → Hp → Prop} {st : Stmt} {e a b : Expr} {fe fk : SE} {fl : SA} {pos : Pos} {i : Nat}
/-- x.append(e) -/
theorem s_app (h : PS X st (tDrop (tBM X.K "list" rAppend (tVar i) (tCons (tE X.K XE fe) tNil)))) : PS X st (tS X.K XE (sApp i fe)) := by
  refine h.weak fun D σ H ⟨G, ρ, W, F, R, p⟩ => ?_
  unfold sApp at p
  split at p
  · rename_i xs hs
    obtain ⟨v, h1, np, vs, rfl, h3, h4, h5⟩ := R.sl i _ hs
    refine ⟨_, h1, .inl ⟨rfl, _, SqL.of h4⟩, G, ρ, W, F, R, p.of_rOut.mono fun d W1 q v F1 H1 s1 R1 hv => ?_⟩
    obtain ⟨hl, q⟩ := Po.of_ite q
    obtain ⟨v', h1', np', vs', e1, h3', h4', h5'⟩ := R1.sl i _ hs
    rw [h1] at h1'
    cases h1'
    cases e1
    refine ⟨np, vs', v, rfl, rfl, h4', Nat.lt_of_lt_of_le (by rw [h5'.length]; exact hl) (sz5 (Nat.le_refl _)), ?_⟩
    exact q G σ F1 _ (.refl _) s1 (R1.mutOwn hs h1 (h5'.append (.one hv)))
  · exact p.elim
/-- x.extend([..]) -/
theorem s_ext (h : PS X st (tDrop (tBM X.K "list" rExtend (tVar i) (tCons (tL X.K XE fl) tNil)))) : PS X st (tS X.K XE (sExt i fl)) := by
  refine h.weak fun D σ H ⟨G, ρ, W, F, R, p⟩ => ?_
  unfold sExt at p
  split at p
  · rename_i xs hs
    obtain ⟨v, h1, np, vs, rfl, h3, h4, h5⟩ := R.sl i _ hs
    refine ⟨_, h1, .inl ⟨rfl, _, SqL.of h4⟩, G, ρ, W, F, R, p.of_rOut.mono fun ds W1 q np2 us F1 H1 s1 R1 fr hp hF hv => ?_⟩
    obtain ⟨hl, q⟩ := Po.of_ite q
    obtain ⟨v', h1', np', vs', e1, h3', h4', h5'⟩ := R1.sl i _ hs
    rw [h1] at h1'
    cases h1'
    cases e1
    refine ⟨np, np2, vs', us, rfl, rfl, h4', hp, sz5 (by rw [h5'.length, hv.length]; exact hl), ?_⟩
    exact q G σ F1 _ (.refl _) s1 (R1.mutOwn hs h1 (h5'.append hv))
  · exact p.elim
/-- x[k] = e -/
theorem s_set (h : PS X st (tAsg (tE X.K XE fe) (gSub (tVar i) (tE X.K XE fk) rSetL))) : PS X st (tS X.K XE (sSet i fk fe)) := by
  refine h.weak fun D σ H ⟨G, ρ, W, F, R, p⟩ => ?_
  unfold sSet at p
  split at p
  · rename_i xs hs
    refine ⟨G, ρ, W, F, R, p.of_rOut.mono fun d W1 q v F1 H1 s1 R1 hv => ?_⟩
    obtain ⟨v', h1, np, vs, rfl, h3, h4, h5⟩ := R1.sl i _ hs
    refine ⟨_, h1, G, ρ, W1, F1, R1, q.of_rOut.mono fun kd W2 q2 kv F2 H2 s2 R2 hk => ?_⟩
    cases hsd : setD xs kd d with
    | none => rw [hsd] at q2; exact q2.elim
    | some ys =>
      rw [hsd] at q2
      obtain ⟨v2, h1', np', vs', e1, h3', h4', h5'⟩ := R2.sl i _ hs
      rw [h1] at h1'
      cases h1'
      cases e1
      obtain ⟨n, j, rfl, hj, hall⟩ := setD_all hsd h5' (hv.mono s2)
      cases hk
      exact ⟨np, vs', n, j, rfl, rfl, h4', hj, q2 G σ F2 _ (.refl _) (s1.trans s2) (R2.mutOwn hs h1 hall)⟩
  · exact p.elim
theorem s_setT (h : PS X st (tAsg (tE X.K XE fe) (gSub (tVar i) (tE X.K XE fk) rSetL))) : PS X st (tS X.K XE (sSetT i fk fe)) := by
  refine h.weak fun D σ H ⟨G, ρ, W, F, R, p⟩ => ?_
  unfold sSetT at p
  split at p
  · rename_i hs
    refine ⟨G, ρ, W, F, R, p.of_rOut.mono fun d W1 q v F1 H1 s1 R1 hv => ?_⟩
    obtain ⟨v', h1, t, hT, rfl⟩ := R1.sl i _ hs
    refine ⟨_, h1, G, ρ, W1, F1, R1, q.of_rOut.mono fun kd W2 q2 kv F2 H2 s2 R2 hk => ?_⟩
    split at q2
    · rename_i ws
      cases hsd : setD ws kd d with
      | none => rw [hsd] at q2; exact q2.elim
      | some ys =>
        rw [hsd] at q2
        have tw := R2.tw
        rw [hT] at tw
        obtain ⟨tv, t1, t2, t3⟩ := tw
        obtain ⟨n, j, rfl, hj, hall⟩ := setD_all hsd t3 (hv.mono s2)
        cases hk
        have g : Gr X.K (fun a => a = t) F2 H2 F2 (upd H2 t (.lst (tv.set j v))) := ⟨.refl _, same_mut R2.fh t2, fun _ e => .inl e, fun a o e n _ => by rw [upd_ne n]; exact e, fun a e => by
          by_cases ha : a = t
          · subst ha; rw [upd_same]; exact fun z => nomatch z
          · rw [upd_ne ha]; exact e, fun tb => tb.mut t1 nt_lst⟩
        exact ⟨t, tv, n, j, rfl, rfl, t1, hj, q2 G σ F2 _ (.refl _) (s1.trans s2) (R2.newTown (W' := some ys) hT g upd_same t2 hall)⟩
    · exact q2.elim
  · exact p.elim
theorem d_ixT {x : Str} {p2 : Pos} (hx : PE X (.Name x p2) (tVar i)) (hb : PE X b (tE X.K XE fk)) (hs : PlainIx b) : PE X (.Subscript (.Name x p2) b pos) (tE X.K XE (eIxT i fk)) := by
  refine (pe_ix ix_list hx hb hs).weak fun σ H Q ⟨G, ρ, W, F, R, p⟩ => ?_
  unfold eIxT at p
  split at p
  · rename_i hs
    obtain ⟨v', h1, t, hT, rfl⟩ := R.sl i _ hs
    refine ⟨_, h1, G, ρ, W, F, R, p.of_bind.mono fun kd W1 q kv F1 H1 s1 R1 hk => ?_⟩
    simp only at q
    split at q
    · rename_i ws
      obtain ⟨z, hz, q2⟩ := Pg.of_ofO q
      have tw := R1.tw
      rw [hT] at tw
      obtain ⟨tv, t1, t2, t3⟩ := tw
      cases kd <;> simp only [ixD] at hz <;> try (cases hz; done)
      cases hk
      obtain ⟨w, e1, e2⟩ := atI_all t3 hz
      exact ⟨t, tv, _, w, rfl, rfl, SqL.of t1, e1, q2 w F1 H1 s1 R1 e2⟩
    · exact q.elim
  · exact p.elim
/-- a comprehension's list, told to all (a statement x = [..] of its own) -/
theorem frz_of {ga : SA} {σ : L2.St} {H : Hp} {Q : VK} (h : tE X.K XE (eFrz ga) σ H Q) : tL X.K XE ga σ H Q := by
  obtain ⟨G, ρ, W, F, R, p⟩ := h
  refine ⟨G, ρ, W, F, R, p.of_bind.mono fun ds W1 q np vs F1 H1 s1 R1 fr hp hF hv => ?_⟩
  have sF : Same F1 (upd F1 np (.lst vs)) := same_new hF
  exact q _ (upd F1 np (.lst vs)) H1 (s1.trans sF) (R1.freeze hp hF fr) (.lst (.inl (.inl upd_same)) (hv.mono sF))
theorem as_frz {ga : SA} (h : PS X st (tAsg (tL X.K XE ga) (gName i))) : PS X st (tAsg (tE X.K XE (eFrz ga)) (gName i)) := h.weak fun _ _ _ => frz_of
theorem as_comp {D0 : Rl} {it : SA} {g : SG} {c : SB} {e : SE} {is vs : List Nat} (hsub : ∀ j ∈ is, j ∈ vs) (h : PS X st (tAsg (tLc (tI D0 X.K XE it) (tG D0 X.K is g) (tT X.K X0 c) (tE X.K X0 e) vs) (gName i))) : PS X st (tAsg (tL X.K XE (lComp it g c e vs)) (gName i)) := h.weak fun _ _ _ => comp_of hsub
end

/-! ### several names at once -/
inductive Mv (K : PySem.W.Frag) (H0 F : Hp) : List V → List SV → List (Addr × HO) → Prop
  | nil : Mv K H0 F [] [] []
  | d {v : V} {x : Dt} {vs : List V} {svs : List SV} {ps : List (Addr × HO)} : Dq K F v x → Mv K H0 F vs svs ps → Mv K H0 F (v :: vs) (.d x :: svs) ps
  | own {p : Addr} {us : List V} {xs : List Dt} {vs : List V} {svs : List SV} {ps : List (Addr × HO)} : H0 p = none → DqAll K F us xs → (∀ e ∈ ps, e.1 ≠ p) → Mv K H0 F vs svs ps → Mv K H0 F (.ref p :: vs) (.own xs :: svs) (ps ++ [(p, .lst us)])
  | dk {p : Addr} {us : List (Key × V)} {kvs : List (Int × Dt)} {vs : List V} {svs : List SV} {ps : List (Addr × HO)} : H0 p = none → KvOk K F us kvs → (∀ e ∈ ps, e.1 ≠ p) → Mv K H0 F vs svs ps → Mv K H0 F (.ref p :: vs) (.dk kvs :: svs) (ps ++ [(p, .dK us)])
abbrev SM := Sl → Tw → Res (List SV × Tw)
def mNil : SM := fun _ W => .ok ([], W)
def mD (e : SE) (m : SM) : SM := fun ρ W => (e ρ W).bind fun p => (m ρ p.2).bind fun q => .ok (.d p.1 :: q.1, q.2)
def mL (f : SA) (m : SM) : SM := fun ρ W => (f ρ W).bind fun p => (m ρ p.2).bind fun q => .ok (.own p.1 :: q.1, q.2)
def tM (K : PySem.W.Frag) (XE : Str → Hp → Prop) (f : SM) : TA := fun σ H Q => ∃ G ρ W F, Rel K G ρ W σ F H ∧
  Pg XE G (f ρ W) fun svs W' => ∀ vs ps F' H', Same F F' → Rel K { G with ext := ps ++ G.ext } ρ W' σ F' H' → Mv K G.H0 F' vs svs ps → (∀ e ∈ ps, ∀ e' ∈ G.ext, e.1 ≠ e'.1) → Q vs H'
def setM : List Nat → List SV → Sl → Option Sl
  | [], [], ρ => some ρ
  | i :: is, sv :: svs, ρ => if i < ρ.length then setM is svs (ρ.set i (some sv)) else none
  | _, _, _ => none
def setV : List Nat → List V → L2.St → L2.St
  | i :: is, v :: vs, σ => setV is vs (σ.set i (some v))
  | _, _, σ => σ
def sPar (is : List Nat) (m : SM) : SS := fun ρ W => rOut (m ρ W) fun svs W1 => match setM is svs ρ with
  | some ρ' => .nx ρ' W1
  | none => .bad
theorem Pg.ext {α : Type} {XE : Str → Hp → Prop} {G : Gh} {E : List (Addr × HO)} {r : Res (α × Tw)} {P : α → Tw → Prop} (h : Pg XE G r P) : Pg XE { G with ext := E } r P := by
  cases r <;> exact h
theorem Rel.extSub {K : PySem.W.Frag} {G : Gh} {ρ : Sl} {W : Tw} {σ : L2.St} {F H : Hp} {E E' : List (Addr × HO)} (R : Rel K { G with ext := E } ρ W σ F H) (h : ∀ e ∈ E', e ∈ E) : Rel K { G with ext := E' } ρ W σ F H :=
  ⟨R.gr, R.len, R.t0, R.t1, R.tw, R.sl, R.dj, R.fr, fun e he => R.ex e (h e he), fun e he => R.xt e (h e he), R.tb, R.kk⟩
theorem Rel.setM {K : PySem.W.Frag} {F H : Hp} {W : Tw} {H0 : Hp} {E : List (Addr × HO)} : ∀ {vs : List V} {svs : List SV} {ps : List (Addr × HO)} {is : List Nat} {ρ ρ' : Sl} {σ : L2.St} {G : Gh}, Mv K H0 F vs svs ps → H0 = G.H0 → G.ext = ps ++ E → (∀ e ∈ ps, ∀ e' ∈ E, e.1 ≠ e'.1) → Rel K G ρ W σ F H →
    Sx.setM is svs ρ = some ρ' → ∃ G', SameB { G with ext := E } G' ∧ Rel K G' ρ' W (setV is vs σ) F H
  | _, _, _, [], ρ, ρ', σ, G, .nil, h0, he, hd, R, hs => by
    cases hs
    exact ⟨{ G with ext := E }, .refl _, ⟨R.gr, R.len, R.t0, R.t1, R.tw, R.sl, R.dj, R.fr, fun e h => R.ex e (by rw [he]; exact h), fun e h => R.xt e (by rw [he]; exact h), R.tb, R.kk⟩⟩
  | _, _, _, i :: is, ρ, ρ', σ, G, .nil, h0, he, hd, R, hs => by cases hs
  | _, _, _, [], ρ, ρ', σ, G, .d _ _, h0, he, hd, R, hs => by cases hs
  | _, _, _, [], ρ, ρ', σ, G, .own _ _ _ _, h0, he, hd, R, hs => by cases hs
  | _, _, _, [], ρ, ρ', σ, G, .dk _ _ _ _, h0, he, hd, R, hs => by cases hs
  | _, _, _, i :: is, ρ, ρ', σ, G, .d hv m, h0, he, hd, R, hs => by
    unfold Sx.setM at hs
    split at hs
    · rename_i hi
      have := Rel.setM (is := is) m h0 he hd (R.setD hi hv) hs
      exact this
    · cases hs
  | _, _, _, i :: is, ρ, ρ', σ, G, .own (p := p) (us := us) (xs := xs) (ps := ps) hp hx hn m, h0, he, hd, R, hs => by
    unfold Sx.setM at hs
    split at hs
    · rename_i hi
      subst h0
      obtain ⟨e1, e2, e3, e4⟩ := R.ex (p, .lst us) (by rw [he]; simp)
      have R1 : Rel K { G with ext := ps ++ E } ρ W σ F H := Rel.extSub (G := G) (E := G.ext) R fun e h => by
        rw [he]
        rcases List.mem_append.mp h with z | z
        · exact List.mem_append_left _ (List.mem_append_left _ z)
        · exact List.mem_append_right _ z
      have fr : Fresh { G with ext := ps ++ E } p := ⟨hp, e4, e3, fun e h => by
        rcases List.mem_append.mp h with z | z
        · exact hn e z
        · exact fun q => hd (p, .lst us) (by simp) e z q.symm⟩
      have R2 := R1.takeOwn hi fr e1 e2 hx
      obtain ⟨G', b, R3⟩ := Rel.setM (G := ({ G with ext := ps ++ E } : Gh).own i p) (E := E) m rfl rfl (fun e h e' h' => hd e (List.mem_append_left _ h) e' h') R2 hs
      exact ⟨G', ⟨b.T0, b.F0, b.H0, b.ext, b.K⟩, R3⟩
    · cases hs
  | _, _, _, i :: is, ρ, ρ', σ, G, .dk (p := p) (us := us) (kvs := xs) (ps := ps) hp hx hn m, h0, he, hd, R, hs => by
    unfold Sx.setM at hs
    split at hs
    · rename_i hi
      subst h0
      obtain ⟨e1, e2, e3, e4⟩ := R.ex (p, .dK us) (by rw [he]; simp)
      have R1 : Rel K { G with ext := ps ++ E } ρ W σ F H := Rel.extSub (G := G) (E := G.ext) R fun e h => by
        rw [he]
        rcases List.mem_append.mp h with z | z
        · exact List.mem_append_left _ (List.mem_append_left _ z)
        · exact List.mem_append_right _ z
      have fr : Fresh { G with ext := ps ++ E } p := ⟨hp, e4, e3, fun e h => by
        rcases List.mem_append.mp h with z | z
        · exact hn e z
        · exact fun q => hd (p, .dK us) (by simp) e z q.symm⟩
      have R2 := R1.takeSv hi fr e1 e2 (sv := .dk xs) ⟨p, us, rfl, rfl, e1, hx⟩
      obtain ⟨G', b, R3⟩ := Rel.setM (G := ({ G with ext := ps ++ E } : Gh).own i p) (E := E) m rfl rfl (fun e h e' h' => hd e (List.mem_append_left _ h) e' h') R2 hs
      exact ⟨G', ⟨b.T0, b.F0, b.H0, b.ext, b.K⟩, R3⟩
    · cases hs
section
variable {X : Cx} {XE : Str → Hp → Prop} {st : Stmt} {e : Expr} {es : List Expr} {fe : SE} {fl : SA} {m : SM} {pos : Pos}
theorem m_nil : PA X [] (tM X.K XE mNil) := pa_nil.weak fun σ H Q ⟨G, ρ, W, F, R, p⟩ => p [] [] F H (.refl _) R .nil (fun _ h => by cases h)
theorem m_d (ha : PE X e (tE X.K XE fe)) (hr : PA X es (tM X.K XE m)) (hs : starEach (e :: es) X.env = (false, eval e X.env) :: starEach es X.env := by rfl) : PA X (e :: es) (tM X.K XE (mD fe m)) := by
  refine (pa_cons ha hr hs).weak fun σ H Q ⟨G, ρ, W, F, R, p⟩ => ?_
  exact ⟨G, ρ, W, F, R, p.of_bind.mono fun d W1 q v F1 H1 s1 R1 hv => ⟨G, ρ, W1, F1, R1, q.of_bind.mono fun svs W2 q2 vs ps F2 H2 s2 R2 hm hd => q2 _ ps F2 H2 (s1.trans s2) R2 (.d (hv.mono s2) hm) hd⟩⟩
theorem m_l (ha : PE X e (tL X.K XE fl)) (hr : PA X es (tM X.K XE m)) (hs : starEach (e :: es) X.env = (false, eval e X.env) :: starEach es X.env := by rfl) : PA X (e :: es) (tM X.K XE (mL fl m)) := by
  refine (pa_cons ha hr hs).weak fun σ H Q ⟨G, ρ, W, F, R, p⟩ => ?_
  refine ⟨G, ρ, W, F, R, p.of_bind.mono fun ds W1 q np us F1 H1 s1 R1 fr hp hF hv => ⟨{ G with ext := (np, .lst us) :: G.ext }, ρ, W1, F1, R1.aside hp hF fr, Pg.mono (Pg.ext q.of_bind) fun svs W2 q2 vs ps F2 H2 s2 R2 hm hd => ?_⟩⟩
  refine q2 _ (ps ++ [(np, .lst us)]) F2 H2 (s1.trans s2) (by rw [List.append_assoc]; exact R2) (.own fr.1 (hv.mono s2) (fun e he => hd e he _ (List.mem_cons_self ..)) hm) fun e he e' he' => ?_
  rcases List.mem_append.mp he with z | z
  · exact hd e z e' (List.mem_cons_of_mem _ he')
  · rw [List.mem_singleton.mp z]
    exact Ne.symm (fr.2.2.2 e' he')
theorem par_len {σ : L2.St} {H : Hp} {Q : List V → Hp → Prop} {is : List Nat} {D : Ends} (h : tS X.K XE (sPar is m) D σ H) (hq : ∀ vs H1, vs.length = is.length → D.nx (setV is vs σ) H1 → Q vs H1) : tM X.K XE m σ H Q := by
  obtain ⟨G, ρ, W, F, R, p⟩ := h
  refine ⟨G, ρ, W, F, R, p.of_rOut.mono fun svs W1 q vs ps F1 H1 s1 R1 hm hd => ?_⟩
  split at q
  · rename_i ρ' hs
    obtain ⟨G', b, R2⟩ := Rel.setM (G := { G with ext := ps ++ G.ext }) (E := G.ext) hm rfl rfl hd R1 hs
    refine hq vs H1 ?_ (q G' _ F1 H1 ⟨b.T0, b.F0, b.H0, b.ext, b.K⟩ s1 R2)
    have l1 : ∀ {is : List Nat} {svs : List SV} {ρ ρ' : Sl}, setM is svs ρ = some ρ' → svs.length = is.length := by
      intro is
      induction is with
      | nil => intro svs ρ ρ' h; cases svs with
        | nil => rfl
        | cons _ _ => cases h
      | cons i is ih => intro svs ρ ρ' h; cases svs with
        | nil => cases h
        | cons s svs =>
          unfold setM at h
          split at h
          · rw [List.length_cons, List.length_cons, ih h]
          · cases h
    have l2 : ∀ {vs : List V} {svs : List SV} {ps : List (Addr × HO)}, Mv X.K G.H0 F1 vs svs ps → vs.length = svs.length := by
      intro vs svs ps h
      induction h with
      | nil => rfl
      | d _ _ ih => rw [List.length_cons, List.length_cons, ih]
      | own _ _ _ _ ih => rw [List.length_cons, List.length_cons, ih]
      | dk _ _ _ _ ih => rw [List.length_cons, List.length_cons, ih]
    rw [l2 hm, l1 hs]
  · exact q.elim
theorem s_par2 {i j : Nat} (h : PS X st (tPar i j (tM X.K XE m))) : PS X st (tS X.K XE (sPar [i, j] m)) :=
  h.weak fun D σ H p => par_len p fun vs H1 hl q => by
    rcases vs with _ | ⟨v, _ | ⟨w, _ | ⟨x, vs⟩⟩⟩ <;> simp at hl
    exact ⟨v, w, rfl, q⟩
theorem s_par3 {i j l : Nat} (h : PS X st (tPar3 i j l (tM X.K XE m))) : PS X st (tS X.K XE (sPar [i, j, l] m)) :=
  h.weak fun D σ H p => par_len p fun vs H1 hl q => by
    rcases vs with _ | ⟨v, _ | ⟨w, _ | ⟨x, _ | ⟨y, vs⟩⟩⟩⟩ <;> simp at hl
    exact ⟨v, w, x, rfl, q⟩
end

/-! ### defs -/
def start0 (m : Nat) (ds : List Dt) : Sl := ds.map (fun x => some (.d x)) ++ List.replicate (m - ds.length) none
def startT (m : Nat) (ds : List Dt) : Sl := match ds with
  | d :: ds => some (.d d) :: some .town :: (ds.map (fun x => some (.d x)) ++ List.replicate (m - (ds.length + 2)) none)
  | [] => []
def runP (m : Nat) (B : SS) (ds : List Dt) : Res Dt := match B (start0 m ds) none with
  | .rt (.d x) _ => .ok x
  | .nx _ _ => .ok .none
  | .exc c => .exc c
  | _ => .bad
def runL (m : Nat) (B : SS) (ds : List Dt) : Res (List Dt) := match B (start0 m ds) none with
  | .rt (.own x) _ => .ok x
  | .exc c => .exc c
  | _ => .bad
def runT (m : Nat) (B : SS) (ds : List Dt) (ws : List Dt) : Res (Dt × List Dt) := match B (startT m ds) (some ws) with
  | .rt (.d x) (some ws') => .ok (x, ws')
  | .nx _ (some ws') => .ok (.none, ws')
  | .exc c => .exc c
  | _ => .bad
theorem dq_slots {K : PySem.W.Frag} {F H : Hp} {T : Option Addr} {fp : Nat → List Addr} {k : Nat} : ∀ {vs : List V} {ds : List Dt} {i : Nat} {sv : SV}, DqAll K F vs ds → (ds.map (fun x => some (SV.d x)) ++ List.replicate k none)[i]? = some (some sv) →
    ∃ v, (vs.map some ++ List.replicate k none)[i]? = some (some v) ∧ SlOk K T F H v (fp i) sv := by
  intro vs ds i sv h e
  by_cases hi : i < ds.length
  · rw [List.getElem?_append_left (by simpa using hi), List.getElem?_map] at e
    have hl := h.length
    cases hd : ds[i]? with
    | none => rw [hd] at e; cases e
    | some d =>
      rw [hd] at e
      cases e
      obtain ⟨v, h1, h2⟩ := h.getD hd
      exact ⟨v, by rw [List.getElem?_append_left (by simp; omega), List.getElem?_map, h1]; rfl, h2⟩
  · rw [List.getElem?_append_right (by simpa using hi)] at e
    simp only [List.getElem?_replicate] at e
    split at e <;> cases e
theorem Rel.start {K : PySem.W.Frag} {F H : Hp} {vs : List V} {ds : List Dt} {k : Nat} (sm : Same F H) (tb : TabsF (tabsOf K) F H) (h : DqAll K F vs ds) : Rel K ⟨K, none, F, H, [], none, fun _ => []⟩ (ds.map (fun x => some (SV.d x)) ++ List.replicate k none) none (vs.map some ++ List.replicate k none) F H :=
  ⟨.refl sm, by simp [h.length], fun t e => (by cases e), fun t e => (by cases e), trivial, fun i sv e => dq_slots h e, fun i j a ha => (by cases ha), fun i a ha => (by cases ha), fun e he => (by cases he), fun e he => (by cases he), tb, rfl⟩
theorem Rel.startT {K : PySem.W.Frag} {F H : Hp} {v0 : V} {d : Dt} {t : Addr} {tv : List V} {ws : List Dt} {vs : List V} {ds : List Dt} {k : Nat} (sm : Same F H) (tb : TabsF (tabsOf K) F H) (h0 : Dq K F v0 d) (h : DqAll K F vs ds) (t1 : H t = some (.lst tv)) (t2 : F t = none) (t3 : DqAll K F tv ws) :
    Rel K ⟨K, some t, F, H, [], some t, fun _ => []⟩ (some (.d d) :: some .town :: (ds.map (fun x => some (SV.d x)) ++ List.replicate k none)) (some ws) (some v0 :: some (.ref t) :: (vs.map some ++ List.replicate k none)) F H :=
  ⟨.refl sm, by simp [h.length], fun t' e => e, fun t' e => .inl e, ⟨tv, t1, t2, t3⟩, fun i sv e => by
    match i, e with
    | 0, e => cases e; exact ⟨v0, rfl, h0⟩
    | 1, e => cases e; exact ⟨.ref t, rfl, t, rfl, rfl⟩
    | i + 2, e => exact dq_slots (fp := fun j => []) (i := i) h e, fun i j a ha => (by cases ha), fun i a ha => (by cases ha), fun e he => (by cases he), fun e he => (by cases he), tb, rfl⟩
section
variable {P : Program} {w : World} {K : PySem.W.Frag} {mg : Str → Option Value} {base : Heap} {x qual : Str} {st : Stmt} {f : Addr} {fd : FuncData} {N ps : List Str} {k n : Nat} {B : SS}
theorem fn_P (F : Fun K x qual st f fd) (S : FnScope N ps (defScope st)) (hn : ps.length = n)
    (hb : ∀ (cdv : Value) (A : Around) (outer : List Env) (s : Shared) (H : Hp) (E : XK), Room k (A.deeper (envOfC qual (defScope st) s.heap.objs.size f cdv)) → PSs (cxOf CX0 P w K mg base N qual (defScope st) f cdv A outer s H E).nox (defBody st) (tS K X0 B)) :
    FnOk P w K mg base CX0 (k + 1) f fd ps (spP K n (runP N.length B)) := by
  refine F.ok S (fun vs H Q E h => ?_) fun cdv A outer s H vs Q E hr h => ⟨tS K X0 B, hb cdv A outer s H E hr, ?_⟩
  · obtain ⟨Fz, ds, _, _, hd, hl, _⟩ := h
    rw [hd.length, hl, hn]
  · obtain ⟨Fz, ds, sm, tb, hd, hl, hm⟩ := h
    have e : L2.start N vs = vs.map some ++ List.replicate (N.length - ds.length) none := by unfold L2.start; rw [hd.length]
    rw [e]
    refine ⟨_, start0 N.length ds, none, Fz, Rel.start sm tb hd, ?_⟩
    unfold runP at hm
    cases hB : B (start0 N.length ds) none with
    | nx ρ W =>
      rw [hB] at hm
      exact fun G' σ' F' H' b s R => hm .non F' H' (by have g := R.gr; unfold Gh.tm at g; rw [b.T0, b.F0, b.H0] at g; exact g.mono fun _ z => nomatch z) .non
    | rt r W =>
      rw [hB] at hm
      cases r with
      | d x => exact fun G' ρ' σ' v F' H' b s R hv => hm v F' H' (by have g := R.gr; unfold Gh.tm at g; rw [b.T0, b.F0, b.H0] at g; exact g.mono fun _ z => nomatch z) hv
      | _ => exact hm.elim
    | exc c => rw [hB] at hm; exact hm.elim
    | rs r ρ W => rw [hB] at hm; exact hm.elim
    | bad => rw [hB] at hm; exact hm.elim
theorem fn_L (F : Fun K x qual st f fd) (S : FnScope N ps (defScope st)) (hn : ps.length = n)
    (hb : ∀ (cdv : Value) (A : Around) (outer : List Env) (s : Shared) (H : Hp) (E : XK), Room k (A.deeper (envOfC qual (defScope st) s.heap.objs.size f cdv)) → PSs (cxOf CX0 P w K mg base N qual (defScope st) f cdv A outer s H E).nox (defBody st) (tS K X0 B)) :
    FnOk P w K mg base CX0 (k + 1) f fd ps (spL K n (runL N.length B)) := by
  refine F.ok S (fun vs H Q E h => ?_) fun cdv A outer s H vs Q E hr h => ⟨tS K X0 B, hb cdv A outer s H E hr, ?_⟩
  · obtain ⟨Fz, ds, _, _, hd, hl, _⟩ := h
    rw [hd.length, hl, hn]
  · obtain ⟨Fz, ds, sm, tb, hd, hl, hm⟩ := h
    have e : L2.start N vs = vs.map some ++ List.replicate (N.length - ds.length) none := by unfold L2.start; rw [hd.length]
    rw [e]
    refine ⟨_, start0 N.length ds, none, Fz, Rel.start sm tb hd, ?_⟩
    unfold runL at hm
    cases hB : B (start0 N.length ds) none with
    | nx ρ W => rw [hB] at hm; exact hm.elim
    | rt r W =>
      rw [hB] at hm
      cases r with
      | own xs =>
        intro G' ρ' σ' v F' H' b s R hv
        obtain ⟨p, us, rfl, h0, h1, h2, h3⟩ := hv
        exact hm p us F' H' (by have g := R.gr; unfold Gh.tm at g; rw [b.T0, b.F0, b.H0] at g; exact g.mono fun _ z => nomatch z) (by rw [b.H0] at h0; exact h0) h1 h2 h3
      | _ => exact hm.elim
    | exc c => rw [hB] at hm; exact hm.elim
    | rs r ρ W => rw [hB] at hm; exact hm.elim
    | bad => rw [hB] at hm; exact hm.elim
theorem fn_T (F : Fun K x qual st f fd) (S : FnScope N ps (defScope st)) (hn : ps.length = n + 2)
    (hb : ∀ (cdv : Value) (A : Around) (outer : List Env) (s : Shared) (H : Hp) (E : XK), Room k (A.deeper (envOfC qual (defScope st) s.heap.objs.size f cdv)) → PSs (cxOf CX0 P w K mg base N qual (defScope st) f cdv A outer s H E).nox (defBody st) (tS K X0 B)) :
    FnOk P w K mg base CX0 (k + 1) f fd ps (spT K n (runT N.length B)) := by
  refine F.ok S (fun vs H Q E h => ?_) fun cdv A outer s H vs Q E hr h => ⟨tS K X0 B, hb cdv A outer s H E hr, ?_⟩
  · obtain ⟨Fz, d, ds, v0, t, vr, tv, ws, rfl, _, _, _, hd, hl, _⟩ := h
    rw [List.length_cons, List.length_cons, hd.length, hl, hn]
  · obtain ⟨Fz, d, ds, v0, t, vr, tv, ws, rfl, sm, tb, h0, hd, hl, t1, t2, t3, hm⟩ := h
    have e : L2.start N (v0 :: .ref t :: vr) = some v0 :: some (.ref t) :: (vr.map some ++ List.replicate (N.length - (ds.length + 2)) none) := by
      unfold L2.start
      rw [List.length_cons, List.length_cons, hd.length]
      rfl
    rw [e]
    refine ⟨_, Sx.startT N.length (d :: ds), some ws, Fz, Rel.startT sm tb h0 hd t1 t2 t3, ?_⟩
    unfold runT at hm
    cases hB : B (Sx.startT N.length (d :: ds)) (some ws) with
    | nx ρ W =>
      rw [hB] at hm
      cases W with
      | none => exact hm.elim
      | some ws' =>
        intro G' σ' F' H' b s R
        have hT : G'.T = some t := R.t0 t (by rw [b.T0])
        have tw := R.tw
        rw [hT] at tw
        obtain ⟨tv', q1, q2, q3⟩ := tw
        exact hm .non F' H' tv' (by have g := R.gr; unfold Gh.tm at g; rw [b.T0, b.F0, b.H0] at g; exact g.mono fun _ z => (Option.some.inj z).symm) q1 q2 q3 .non
    | rt r W =>
      rw [hB] at hm
      cases r with
      | d x =>
        cases W with
        | none => exact hm.elim
        | some ws' =>
          intro G' ρ' σ' v F' H' b s R hv
          have hT : G'.T = some t := R.t0 t (by rw [b.T0])
          have tw := R.tw
          rw [hT] at tw
          obtain ⟨tv', q1, q2, q3⟩ := tw
          exact hm v F' H' tv' (by have g := R.gr; unfold Gh.tm at g; rw [b.T0, b.F0, b.H0] at g; exact g.mono fun _ z => (Option.some.inj z).symm) q1 q2 q3 hv
      | _ => cases W <;> exact hm.elim
    | exc c => rw [hB] at hm; exact hm.elim
    | rs r ρ W => rw [hB] at hm; exact hm.elim
    | bad => rw [hB] at hm; exact hm.elim
end
end Sx

namespace Sx
open PySem PySem.Spec PyProof.Rows L2

/-! ### dicts with int keys -/
def putD (kvs : List (Int × Dt)) (k : Int) (d : Dt) : List (Int × Dt) :=
  if (kvs.any fun kv => decide (kv.1 = k)) = true then kvs.map (fun kv => if kv.1 = k then (kv.1, d) else kv) else kvs ++ [(k, d)]
def mergeD (kvs more : List (Int × Dt)) : List (Int × Dt) := more.foldl (fun acc kv => putD acc kv.1 kv.2) kvs
def valD (kvs : List (Int × Dt)) (k : Int) : Option Dt := (kvs.find? fun kv => decide (kv.1 = k)).map (·.2)
def pairsD : List Dt → Option (List (Int × Dt))
  | [] => some []
  | .tuple [.int k, v] :: ds => (pairsD ds).map fun r => (k, v) :: r
  | _ => none
def dictOf : Dt → Option (List (Int × Dt))
  | .list ds => (pairsD ds).map (mergeD [])
  | _ => none
abbrev SK := Sl → Tw → Res (List (Int × Dt) × Tw)
def kDict (e : SE) : SK := fun ρ W => (e ρ W).bind fun p => ofO (dictOf p.1) p.2
def dkAt (ρ : Sl) (i : Nat) : Option (List (Int × Dt)) := match ρ[i]? with
  | some (some (.dk kvs)) => some kvs
  | some (some (.fd kvs)) => some kvs
  | _ => none
def inDk (ρ : Sl) (i : Nat) (k : Dt) : Option Bool := match dkAt ρ i, k with
  | some kvs, .int k => some (valD kvs k).isSome
  | _, _ => none
def eDin (i : Nat) (fk : SE) : SE := fun ρ W => (fk ρ W).bind fun p => ofO ((inDk ρ i p.1).map PyData.bool) p.2
def eDnin (i : Nat) (fk : SE) : SE := fun ρ W => (fk ρ W).bind fun p => ofO ((inDk ρ i p.1).map fun b => PyData.bool (!b)) p.2
def getDk (kvs : List (Int × Dt)) (k : Dt) : Option Dt := match k with
  | .int k => valD kvs k
  | _ => none
def eDget (i : Nat) (fk : SE) : SE := fun ρ W => match dkAt ρ i with
  | some kvs => (fk ρ W).bind fun p => ofO (getDk kvs p.1) p.2
  | none => .bad
def iDk (i : Nat) : SA := fun ρ W => match ρ[i]? with
  | some (some (.fd kvs)) => .ok (kvs.map (fun kv => PyData.int kv.1), W)
  | _ => .bad
def lLock (i : Nat) (f : SA) : SA := fun ρ W => match ρ[i]? with
  | some (some (.dk kvs)) => nox (f (ρ.set i (some (.fd kvs))) W)
  | _ => .bad
def sDk (i : Nat) (f : SK) : SS := fun ρ W => rOut (f ρ W) fun kvs W1 => if i < ρ.length then .nx (ρ.set i (some (.dk kvs))) W1 else .bad
def tDk (K : PySem.W.Frag) (XE : Str → Hp → Prop) (f : SK) : TE := fun σ H Q => ∃ G ρ W F, Rel K G ρ W σ F H ∧
  Pg XE G (f ρ W) fun kvs W' => ∀ p vs F' H', Same F F' → Rel K G ρ W' σ F' H' → Fresh G p → H' p = some (.dK vs) → F' p = none → KvOk K F' vs kvs → Q (.ref p) H'
section
variable {K : PySem.W.Frag} {F : Hp}
theorem KvOk.any {k : Int} : ∀ {vs : List (Key × V)} {ds : List (Int × Dt)}, KvOk K F vs ds → (vs.any fun kv => decide (kv.1 = Sum.inl k)) = (ds.any fun kv => decide (kv.1 = k))
  | _, _, .nil => rfl
  | _, _, .cons (k := j) h t => by
    rw [List.any_cons, List.any_cons, KvOk.any t]
    congr 1
    by_cases e : j = k <;> simp [e]
theorem KvOk.find {k : Int} : ∀ {vs : List (Key × V)} {ds : List (Int × Dt)}, KvOk K F vs ds → (valV vs (Sum.inl k) = none ∧ valD ds k = none) ∨ ∃ v d, valV vs (Sum.inl k) = some v ∧ valD ds k = some d ∧ Dq K F v d
  | _, _, .nil => .inl ⟨rfl, rfl⟩
  | _, _, .cons (k := j) h t => by
    by_cases e : j = k
    · subst e
      exact .inr ⟨_, _, by unfold valV; simp, by unfold valD; simp, h⟩
    · have e1 : ∀ vs v, valV (((Sum.inl j : Key), v) :: vs) (Sum.inl k) = valV vs (Sum.inl k) := fun vs v => by unfold valV; simp [e]
      have e2 : ∀ ds d, valD ((j, d) :: ds) k = valD ds k := fun ds d => by unfold valD; simp [e]
      rw [e1, e2]
      exact KvOk.find t
theorem KvOk.map {k : Int} {v : V} {d : Dt} (hv : Dq K F v d) : ∀ {vs : List (Key × V)} {ds : List (Int × Dt)}, KvOk K F vs ds → KvOk K F (vs.map (fun kv => if kv.1 = Sum.inl k then (kv.1, v) else kv)) (ds.map (fun kv => if kv.1 = k then (kv.1, d) else kv))
  | _, _, .nil => .nil
  | _, _, .cons (k := j) h t => by
    rw [List.map_cons, List.map_cons]
    by_cases e : j = k
    · subst e
      simp only [if_true]
      exact .cons hv (KvOk.map hv t)
    · have : ¬ ((Sum.inl j : Key) = Sum.inl k) := fun z => e (Sum.inl.inj z)
      simp only [if_neg this, if_neg e]
      exact .cons h (KvOk.map hv t)
theorem KvOk.append {us : List (Key × V)} {es : List (Int × Dt)} (h' : KvOk K F us es) : ∀ {vs : List (Key × V)} {ds : List (Int × Dt)}, KvOk K F vs ds → KvOk K F (vs ++ us) (ds ++ es)
  | _, _, .nil => h'
  | _, _, .cons h t => .cons h (KvOk.append h' t)
theorem KvOk.put {k : Int} {v : V} {d : Dt} {vs : List (Key × V)} {ds : List (Int × Dt)} (h : KvOk K F vs ds) (hv : Dq K F v d) : KvOk K F (putK vs (Sum.inl k) v) (putD ds k d) := by
  unfold putK putD
  rw [h.any]
  split
  · exact h.map hv
  · exact KvOk.append (.cons hv .nil) h
theorem KvOk.merge : ∀ {us : List (Key × V)} {es : List (Int × Dt)} {vs : List (Key × V)} {ds : List (Int × Dt)}, KvOk K F us es → KvOk K F vs ds → KvOk K F (mergeK vs us) (mergeD ds es)
  | _, _, _, _, .nil, h => h
  | _, _, _, _, .cons hv t, h => by
    unfold mergeK mergeD
    rw [List.foldl_cons, List.foldl_cons]
    exact KvOk.merge t (h.put hv)
theorem pairs_of {xs : List V} {ds : List Dt} {kvs : List (Int × Dt)} (h : DqAll K F xs ds) (e : pairsD ds = some kvs) : ∃ (ps : List Addr) (us : List (Key × V)), xs = ps.map V.ref ∧ Paired (fun p kv => SqT K F p [kV kv.1, kv.2]) ps us ∧ KvOk K F us kvs := by
  induction ds generalizing xs kvs with
  | nil => cases h; cases e; exact ⟨[], [], rfl, .nil, .nil⟩
  | cons d ds ih =>
    cases h with
    | cons h1 h2 =>
      cases d <;> try (cases e; done)
      rename_i ys
      rcases ys with _ | ⟨y, _ | ⟨z, _ | ⟨z2, ys⟩⟩⟩ <;> try (cases e; done)
      · cases y <;> cases e
      · cases y <;> try (cases e; done)
        rename_i k
        have e : (pairsD ds).map (fun r => (k, z) :: r) = some kvs := e
        cases hp : pairsD ds with
        | none => rw [hp] at e; cases e
        | some r =>
          rw [hp] at e
          cases e
          obtain ⟨ps, us, rfl, q1, q2⟩ := ih h2 hp
          cases h1 with
          | tup hs ha =>
            cases ha with
            | cons a1 a2 =>
              cases a1
              cases a2 with
              | cons a2 a3 =>
                cases a3
                exact ⟨_ :: ps, (.inl k, _) :: us, rfl, .cons hs q1, .cons a2 q2⟩
      · cases y <;> cases e
theorem paired_mono {F' : Hp} (s : Same F F') : ∀ {ps : List Addr} {us : List (Key × V)}, Paired (fun p kv => SqT K F p [kV kv.1, kv.2]) ps us → Paired (fun p kv => SqT K F' p [kV kv.1, kv.2]) ps us
  | _, _, .nil => .nil
  | _, _, .cons h t => .cons (sqT_mono s h) (paired_mono s t)
end
section
variable {X : Cx} {XE : Str → Hp → Prop} {st : Stmt} {e a b : Expr} {es : List Expr} {fe fk : SE} {fl : SA} {fd : SK} {m : SM} {pos p : Pos} {i : Nat}
/-- dict([..]) -/
theorem k_dict (hc : X.calm = true) (hg : Gl X "dict") (hm : X.mg "dict" = none) (hv : bootBuiltins "dict" = some (.type "dict")) (he : PE X e (tE X.K XE fe)) (hs : starEach [e] X.env = [(false, eval e X.env)] := by rfl) : PE X (.Call (.Name "dict" p) [e] [] pos) (tDk X.K XE (kDict fe)) := by
  refine (pe_callTy (call_dictP hc) hg hm hv (pa_cons he pa_nil hs) (by decide) (by decide) hs (by rfl)).weak fun σ H Q ⟨G, ρ, W, F, R, p⟩ => ?_
  refine ⟨G, ρ, W, F, R, p.of_bind.mono fun d W1 q v F1 H1 s1 R1 hv => ?_⟩
  obtain ⟨kvs, hk, q2⟩ := q.of_ofO
  cases d <;> try (cases hk; done)
  rename_i ds
  have hk : (pairsD ds).map (mergeD []) = some kvs := hk
  cases hp : pairsD ds with
  | none => rw [hp] at hk; cases hk
  | some r =>
    rw [hp] at hk
    cases hk
    cases hv with
    | lst h1 h2 =>
      obtain ⟨ps, us, rfl, w1, w2⟩ := pairs_of h2 hp
      refine ⟨_, ps, us, rfl, R1.fh.seq h1, paired_mono R1.fh w1, fun np hnp => ?_⟩
      have g : Gr0 X.K F1 H1 F1 (upd H1 np (.dK (mergeK [] us))) := .newH R1.fh hnp
      exact q2 np _ F1 _ s1 (R1.grow g) (R1.fresh hnp) upd_same (R1.fh.free hnp) (KvOk.merge w2 .nil)
theorem s_dk (h : PS X st (tAsg (tDk X.K XE fd) (gName i))) : PS X st (tS X.K XE (sDk i fd)) :=
  h.weak fun D σ H ⟨G, ρ, W, F, R, p⟩ => ⟨G, ρ, W, F, R, p.of_rOut.mono fun kvs W1 q np vs F1 H1 s1 R1 fr hp hF hv => by
    obtain ⟨hi, q⟩ := Po.of_ite q
    exact q _ _ F1 H1 (G.own_same i np) s1 (R1.takeSv (sv := .dk kvs) hi fr hp hF ⟨np, vs, rfl, rfl, hp, hv⟩)⟩
theorem dk_of {K : PySem.W.Frag} {G : Gh} {ρ : Sl} {W : Tw} {σ : L2.St} {F H : Hp} {kvs : List (Int × Dt)} (R : Rel K G ρ W σ F H) (h : dkAt ρ i = some kvs) : ∃ a vs, σ[i]? = some (some (.ref a)) ∧ Rd H a (.dK vs) ∧ KvOk K F vs kvs := by
  unfold dkAt at h
  split at h
  · rename_i kv hs
    cases h
    obtain ⟨v, h1, a, vs, rfl, _, h3, h4⟩ := R.sl i _ hs
    exact ⟨a, vs, h1, .inl h3, h4⟩
  · rename_i kv hs
    cases h
    obtain ⟨v, h1, a, o, vs, rfl, h3, h4⟩ := R.sl i _ hs
    exact ⟨a, vs, h1, .inr ⟨o, R.fh _ _ h3⟩, h4⟩
  · cases h
theorem din_of {σ : L2.St} {H : Hp} {Q : VK} {x : Str} {g : Bool → Bool} (h : tE X.K XE (fun ρ W => (fk ρ W).bind fun p => ofO ((inDk ρ i p.1).map fun b => PyData.bool (g b)) p.2) σ H Q) :
    tE X.K XE fk σ H fun y H1 => tVar i σ H1 fun x H2 => ∃ a o, x = .ref a ∧ DGet H2 a y o ∧ Q (.bl (g o.isSome)) H2 := by
  obtain ⟨G, ρ, W, F, R, p⟩ := h
  refine ⟨G, ρ, W, F, R, p.of_bind.mono fun d W1 q v F1 H1 s1 R1 hv => ?_⟩
  obtain ⟨z, hz, q2⟩ := q.of_ofO
  simp only [inDk] at hz
  cases hk : dkAt ρ i with
  | none => rw [hk] at hz; cases hz
  | some kvs =>
    rw [hk] at hz
    cases d <;> try (cases hz; done)
    cases hz
    cases hv
    rename_i k
    obtain ⟨a, vs, h1, h2, h3⟩ := dk_of R1 hk
    refine ⟨_, h1, a, valV vs (.inl k), rfl, .inl ⟨vs, .inl k, h2, rfl, rfl⟩, ?_⟩
    rcases h3.find (k := k) with ⟨e1, e2⟩ | ⟨v, d, e1, e2, _⟩
    · rw [e1]; rw [e2] at q2; exact q2 _ F1 H1 s1 R1 (.bl _)
    · rw [e1]; rw [e2] at q2; exact q2 _ F1 H1 s1 R1 (.bl _)
theorem c_din {x : Str} {p2 : Pos} (hu : X.A.units + 1 < cLine) (he : PE X e (tE X.K XE fk)) (hx : PE X (.Name x p2) (tVar i)) : PT X (.Compare e [.In] [.Name x p2] pos) (tT X.K XE (bOf (eDin i fk))) :=
  (pt_cmp (pc_din hu he hx) (by rfl)).weak fun _ _ _ h => din_of (x := x) (g := fun b => b) (test_of h)
theorem c_dnin {x : Str} {p2 : Pos} (hu : X.A.units + 1 < cLine) (he : PE X e (tE X.K XE fk)) (hx : PE X (.Name x p2) (tVar i)) : PT X (.Compare e [.NotIn] [.Name x p2] pos) (tT X.K XE (bOf (eDnin i fk))) :=
  (pt_cmp (pc_dnotin hu he hx) (by rfl)).weak fun _ _ _ h => din_of (x := x) (g := fun b => !b) (test_of h)
theorem d_dget {x : Str} {p2 : Pos} (hu : X.A.units + 1 < cLine) (hx : PE X (.Name x p2) (tVar i)) (he : PE X e (tE X.K XE fk)) (hs : NoSl e) : PE X (.Subscript (.Name x p2) e pos) (tE X.K XE (eDget i fk)) := by
  refine (pe_dget hu hx he hs).weak fun σ H Q ⟨G, ρ, W, F, R, p⟩ => ?_
  unfold eDget at p
  cases hk : dkAt ρ i with
  | none => simp only [hk] at p; exact p.elim
  | some kvs =>
    simp only [hk] at p
    obtain ⟨a, vs, h1, h2, h3⟩ := dk_of R hk
    refine ⟨_, h1, G, ρ, W, F, R, p.of_bind.mono fun d W1 q v F1 H1 s1 R1 hv => ?_⟩
    obtain ⟨z, hz, q2⟩ := q.of_ofO
    cases d <;> try (cases hz; done)
    cases hv
    rename_i k
    obtain ⟨a', vs', h1', h2', h3'⟩ := dk_of R1 hk
    rw [h1] at h1'
    cases h1'
    have hz : valD kvs k = some z := hz
    rcases h3'.find (k := k) with ⟨e1, e2⟩ | ⟨w, d, e1, e2, e3⟩
    · rw [e2] at hz; cases hz
    · rw [e2] at hz
      cases hz
      exact ⟨a, w, rfl, .inl ⟨vs', .inl k, h2', rfl, e1.symm⟩, q2 w F1 H1 s1 R1 e3⟩
/-- for k in d, within a lock -/
theorem wd_keys {K : PySem.W.Frag} {F : Hp} {d : Addr} {o : Obj} {vs : List (Key × V)} {kvs : List (Int × Dt)} (h : F d = some (.frz o (.dK vs))) (hk : KvOk K F vs kvs) : WalkD Dq K F (Itk d o vs) (kvs.map fun kv => PyData.int kv.1) := by
  unfold WalkD
  have hl : ∀ {vs : List (Key × V)} {kvs : List (Int × Dt)}, KvOk K F vs kvs → vs.length = kvs.length := by
    intro vs kvs h
    induction h with
    | nil => rfl
    | cons _ _ ih => rw [List.length_cons, List.length_cons, ih]
  have hg : ∀ {vs : List (Key × V)} {kvs : List (Int × Dt)} {i : Nat} {k : Key} {v : V}, KvOk K F vs kvs → vs[i]? = some (k, v) → ∃ j d, k = .inl j ∧ kvs[i]? = some (j, d) := by
    intro vs kvs i k v h
    induction h generalizing i with
    | nil => intro e; simp at e
    | cons _ _ ih => intro e; cases i with
      | zero => simp at e; obtain ⟨rfl, _⟩ := e; exact ⟨_, _, rfl, rfl⟩
      | succ i => simp at e; obtain ⟨j, d, h1, h2⟩ := ih e; exact ⟨j, d, h1, by simpa using h2⟩
  rw [List.length_map, ← hl hk]
  refine Walk.mono walk_keys (fun H ⟨F2, s1, s2⟩ => s2 _ _ (s1 _ _ h)) fun i H x H' hi ⟨F2, s1, s2⟩ ⟨e, k, v, hx, ex⟩ F2' s1' s2' => ?_
  subst e
  obtain ⟨j, d, rfl, h2⟩ := hg hk hx
  subst ex
  exact ⟨F2', .int j, by simp [h2], .refl s2', .int j⟩
theorem i_dk {tg : Expr} {x : Str} {p2 : Pos} (hx : PE X (.Name x p2) (tVar i)) : PI X tg (.Name x p2) (tI Dq X.K XE (iDk i)) := by
  refine (pi_keys hx).weak fun σ H R' ⟨G, ρ, W, F, R, p⟩ => ?_
  unfold iDk at p
  split at p
  · rename_i kvs hs
    obtain ⟨v, h1, a, o, vs, rfl, h3, h4⟩ := R.sl i _ hs
    exact ⟨_, h1, a, o, rfl, .inl ⟨vs, R.fh _ _ h3, p _ F H (.refl _) R (wd_keys h3 h4)⟩⟩
  · exact p.elim
end
/-! ### locks -/
mutual
theorem dq_del {K : PySem.W.Frag} {F F' : Hp} {p : Addr} {o : Obj} {u : List (Key × V)} (h0 : F p = some (.frz o (.dK u))) (e : ∀ a, a ≠ p → F' a = F a) : ∀ (d : Dt) (v : V), Dq K F v d → Dq K F' v d
  | .none, _, h => by cases h; exact .non
  | .bool b, _, h => by cases h; exact .bl b
  | .int i, _, h => by cases h; exact .int i
  | .str x, _, h => by cases h; exact .str x
  | .list ds, _, h => by
    cases h with
    | lst hs ha =>
      rename_i a xs
      refine .lst ?_ (dqAll_del h0 e ds _ ha)
      rcases hs with z | z
      · refine .inl ?_
        have hne : a ≠ p := fun q => by
          subst q
          rcases z with z | ⟨_, z⟩ <;> (rw [h0] at z; cases z)
        unfold Rd
        rw [e a hne]
        exact z
      · exact .inr z
  | .tuple ds, _, h => by
    cases h with
    | tup hs ha hp =>
      rename_i a xs
      refine .tup ?_ (dqAll_del h0 e ds _ ha) ?_
      · rcases hs with z | z
        · refine .inl ?_
          have hne : a ≠ p := fun q => by
            subst q
            rcases z with z | ⟨_, z⟩ <;> (rw [h0] at z; cases z)
          unfold Rd
          rw [e a hne]
          exact z
        · exact .inr z
      · rcases hp with ⟨o', z1, z2⟩ | z
        · have hne : a ≠ p := fun q => by
            subst q
            rw [h0] at z1
            cases z1
          exact .inl ⟨o', by rw [e a hne]; exact z1, z2⟩
        · exact .inr z
  | .dict kvs, _, h => by
    cases h with
    | tab h1 h2 =>
      rename_i a xs
      have hne : a ≠ p := fun q => by
        subst q
        rw [h0] at h1
        unfold TabO at h1
        cases h1
      exact .tab (by rw [e a hne]; exact h1) (dqTab_del h0 e kvs _ h2)
theorem dqAll_del {K : PySem.W.Frag} {F F' : Hp} {p : Addr} {o : Obj} {u : List (Key × V)} (h0 : F p = some (.frz o (.dK u))) (e : ∀ a, a ≠ p → F' a = F a) : ∀ (ds : List Dt) (vs : List V), DqAll K F vs ds → DqAll K F' vs ds
  | [], _, h => by cases h; exact .nil
  | d :: ds, _, h => by
    cases h with
    | cons h1 h2 => exact .cons (dq_del h0 e d _ h1) (dqAll_del h0 e ds _ h2)
theorem dqTab_del {K : PySem.W.Frag} {F F' : Hp} {p : Addr} {o : Obj} {u : List (Key × V)} (h0 : F p = some (.frz o (.dK u))) (e : ∀ a, a ≠ p → F' a = F a) : ∀ (kvs : List (Dt × Dt)) (xs : List (List Key × Addr × Value)), DqTab K F xs kvs → DqTab K F' xs kvs
  | [], _, h => by cases h; exact .nil
  | (k, d) :: kvs, _, h => by
    cases h with
    | cons h1 h2 h3 h4 =>
      refine .cons ?_ h2 (dq_del h0 e d _ h3) (dqTab_del h0 e kvs _ h4)
      rcases h1 with z | z
      · refine .inl ?_
        rename_i b u v xs
        have hne : b ≠ p := fun q => by
          subst q
          rcases z with z | ⟨_, z⟩ <;> (rw [h0] at z; cases z)
        unfold Rd
        rw [e b hne]
        exact z
      · exact .inr z
end
section
variable {K : PySem.W.Frag} {G : Gh} {ρ : Sl} {W W' : Tw} {σ : L2.St} {F H F' H' : Hp} {p : Addr} {u : List (Key × V)} {od : Obj} {i : Nat} {kvs : List (Int × Dt)}
def Gh.lock (G : Gh) (i : Nat) (p : Addr) (o : HO) : Gh := { G with F0 := upd G.F0 p o, H0 := upd G.H0 p o, fp := fun j => if j = i then [] else G.fp j }
theorem tabs_un {T : List (Addr × Str)} {F H : Hp} {p : Addr} {o : Obj} {u : HO} (t : TabsF T (upd F p (.frz o u)) (upd H p (.frz o u))) : TabsF T F H := fun x hx => by
  obtain ⟨h0, ps, h1, h2, h3⟩ := t x hx
  have hP : x.1 ≠ p := fun z => by
    rw [z, upd_same] at h1
    cases h1
  refine ⟨by rw [upd_ne hP] at h0; exact h0, ps, by rw [upd_ne hP] at h1; exact h1, h2, fun pos cv e => ?_⟩
  obtain ⟨c, e1, e2⟩ := h3 pos cv e
  have hne : c ≠ p := fun z => by
    subst z
    rw [upd_same] at e2
    exact frz_code c x.2 (Option.some.inj e2)
  exact ⟨c, e1, by rw [upd_ne hne] at e2; exact e2⟩
theorem Rel.lock (R : Rel K G ρ W σ F H) (hs : ρ[i]? = some (some (.dk kvs))) (hσ : σ[i]? = some (some (.ref p))) (hp : H p = some (.dK u)) (hm : G.fp i = [p]) (hk : KvOk K F u kvs) :
    Rel K (G.lock i p (.frz od (.dK u))) (ρ.set i (some (.fd kvs))) W σ (upd F p (.frz od (.dK u))) (upd H p (.frz od (.dK u))) := by
  have hi : i < ρ.length := (List.getElem?_eq_some_iff.mp hs).1
  have hmem : p ∈ G.fp i := by rw [hm]; simp
  obtain ⟨q1, q2, q3, q4⟩ := R.fr i p hmem
  have sF : Same F (upd F p (.frz od (.dK u))) := same_new q1
  have hout : ∀ j, j ≠ i → p ∉ G.fp j := fun j hj hz => hj (R.dj j i p hz hmem)
  have hfp : ∀ j a, a ∈ (G.lock i p (.frz od (.dK u))).fp j → j ≠ i ∧ a ∈ G.fp j := fun j a ha => by
    unfold Gh.lock at ha
    simp only at ha
    by_cases hj : j = i
    · rw [if_pos hj] at ha; cases ha
    · rw [if_neg hj] at ha; exact ⟨hj, ha⟩
  refine ⟨⟨same_both R.gr.ff, same_both R.fh, fun a e => ?_, fun a o e n m => ?_, fun a e => ?_, fun t => ((R.gr.tb (tabs_un t)).ff q1 hp nt_dK).mut hp nt_dK⟩, by rw [List.length_set]; exact R.len, R.t0, fun t ht => ?_, ?_, fun j sv e => ?_, fun j k a ha hb => ?_, fun j a ha => ?_, fun e he => ?_, R.xt, (R.tb.ff q1 hp nt_dK).mut hp nt_dK, R.kk⟩
  · by_cases ha : a = p
    · subst ha; exact .inl (by unfold Gh.lock; simp only; rw [upd_same]; exact fun z => nomatch z)
    · rw [upd_ne ha] at e
      unfold Gh.lock
      simp only
      rw [upd_ne ha, upd_ne ha]
      exact R.gr.nw a e
  · unfold Gh.lock at e
    simp only at e
    by_cases ha : a = p
    · subst ha; rw [upd_same] at e ⊢; exact e
    · rw [upd_ne ha] at e ⊢; exact R.gr.kp a o e n m
  · unfold Gh.lock at e
    simp only at e
    by_cases ha : a = p
    · subst ha; rw [upd_same]; exact fun z => nomatch z
    · rw [upd_ne ha] at e ⊢; exact R.gr.th a e
  · rcases R.t1 t ht with z | z
    · exact .inl z
    · have hne : t ≠ p := fun q => q4 (by rw [← q]; exact ht)
      exact .inr (by unfold Gh.lock; simp only; rw [upd_ne hne]; exact z)
  · have t := R.tw
    revert t
    show TwOk K F H G.T W → TwOk K (upd F p _) (upd H p _) G.T W
    cases hT : G.T <;> cases W <;> intro t
    · trivial
    · exact t
    · exact t
    · rename_i tt _
      obtain ⟨tv, t1, t2, t3⟩ := t
      have hne : tt ≠ p := fun z => q4 (by rw [hT, z])
      exact ⟨tv, by rw [upd_ne hne]; exact t1, by rw [upd_ne hne]; exact t2, t3.mono sF⟩
  · by_cases hj : i = j
    · subst hj
      rw [List.getElem?_set_self hi] at e
      cases e
      exact ⟨.ref p, hσ, p, od, u, rfl, upd_same, hk.mono sF⟩
    · rw [List.getElem?_set_ne hj] at e
      obtain ⟨v, e1, e2⟩ := R.sl j sv e
      refine ⟨v, e1, ?_⟩
      unfold Gh.lock
      simp only [if_neg (Ne.symm hj)]
      exact e2.keep sF fun a o ho _ ha => by rw [upd_ne fun z => hout j (Ne.symm hj) (by rw [← z]; exact ha)]; exact ho
  · exact R.dj j k a (hfp j a ha).2 (hfp k a hb).2
  · obtain ⟨hj, ha⟩ := hfp j a ha
    have hne : a ≠ p := fun z => hout j hj (by rw [← z]; exact ha)
    obtain ⟨e1, e2, e3, e4⟩ := R.fr j a ha
    exact ⟨by rw [upd_ne hne]; exact e1, by rw [upd_ne hne]; exact e2, by unfold Gh.lock; simp only; rw [upd_ne hne]; exact e3, e4⟩
  · obtain ⟨e1, e2, e3, e4⟩ := R.ex e he
    have hne : e.1 ≠ p := fun z => e4 i (by rw [z]; exact hmem)
    exact ⟨by rw [upd_ne hne]; exact e1, by rw [upd_ne hne]; exact e2, e3, fun j hj => e4 j (hfp j _ hj).2⟩
def delH (F : Hp) (p : Addr) : Hp := fun a => if a = p then none else F a
theorem delH_ne {a : Addr} (h : a ≠ p) : delH F p a = F a := by unfold delH; rw [if_neg h]
theorem tabs_del {T : List (Addr × Str)} {F H : Hp} {p : Addr} {o : Obj} {u : HO} (hp : F p = some (.frz o u)) (t : TabsF T F H) : TabsF T (delH F p) H := fun x hx => by
  obtain ⟨h0, ps, h1, h2, h3⟩ := t x hx
  refine ⟨by unfold delH; split <;> first | rfl | exact h0, ps, h1, h2, fun pos cv e => ?_⟩
  obtain ⟨c, e1, e2⟩ := h3 pos cv e
  have hne : c ≠ p := fun z => by
    subst z
    rw [hp] at e2
    exact frz_code c x.2 (Option.some.inj e2)
  exact ⟨c, e1, by rw [delH_ne hne]; exact e2⟩
theorem Rel.unlock (R : Rel K G ρ W σ F H) (hs : ρ[i]? = some (some (.dk kvs))) (hσ : σ[i]? = some (some (.ref p))) (hp : H p = some (.dK u)) (hm : G.fp i = [p]) (hk : KvOk K F u kvs)
    (R' : Rel K (G.lock i p (.frz od (.dK u))) (ρ.set i (some (.fd kvs))) W' σ F' H') (s : Same (upd F p (.frz od (.dK u))) F') : Rel K G ρ W' σ (delH F' p) (upd H' p (.dK u)) := by
  have hi : i < ρ.length := (List.getElem?_eq_some_iff.mp hs).1
  have hmem : p ∈ G.fp i := by rw [hm]; simp
  obtain ⟨q1, q2, q3, q4⟩ := R.fr i p hmem
  have hF' : F' p = some (.frz od (.dK u)) := s _ _ upd_same
  have hout : ∀ j, j ≠ i → p ∉ G.fp j := fun j hj hz => hj (R.dj j i p hz hmem)
  have sF : Same F (delH F' p) := fun a o e => by
    have hne : a ≠ p := ne_of_none e q1
    rw [delH_ne hne]
    exact s a o (by rw [upd_ne hne]; exact e)
  have hdel : ∀ a, a ≠ p → delH F' p a = F' a := fun a h => delH_ne h
  refine ⟨⟨R.gr.ff.trans sF, fun a o e => ?_, fun a e => ?_, fun a o e n m => ?_, fun a e => ?_, fun t => tabs_del hF' ((R'.gr.tb (t.new (R.gr.ff.free q1) q3)).mut (R'.fh _ _ hF') nt_frz)⟩, R.len, R.t0, R.t1, ?_, fun j sv e => ?_, R.dj, fun j a ha => ?_, fun e he => ?_, R.xt, tabs_del hF' (R'.tb.mut (R'.fh _ _ hF') nt_frz), R.kk⟩
  · by_cases ha : a = p
    · subst ha; unfold delH at e; rw [if_pos rfl] at e; cases e
    · rw [delH_ne ha] at e; rw [upd_ne ha]; exact R'.fh a o e
  · by_cases ha : a = p
    · subst ha; unfold delH at e; rw [if_pos rfl] at e; exact absurd rfl e
    · rw [delH_ne ha] at e
      have := R'.gr.nw a e
      unfold Gh.lock at this
      simp only at this
      rw [upd_ne ha, upd_ne ha] at this
      exact this
  · have hne : a ≠ p := fun z => by rw [z, q3] at e; cases e
    rw [upd_ne hne]
    exact R'.gr.kp a o (by unfold Gh.lock; simp only; rw [upd_ne hne]; exact e) n m
  · have hne : a ≠ p := fun z => e (by rw [z]; exact q3)
    rw [upd_ne hne]
    exact R'.gr.th a (by unfold Gh.lock; simp only; rw [upd_ne hne]; exact e)
  · have t := R'.tw
    revert t
    show TwOk K F' H' G.T W' → TwOk K (delH F' p) (upd H' p _) G.T W'
    cases hT : G.T <;> cases W' <;> intro t
    · trivial
    · exact t
    · exact t
    · rename_i tt _
      obtain ⟨tv, t1, t2, t3⟩ := t
      have hne : tt ≠ p := fun z => q4 (by rw [hT, z])
      exact ⟨tv, by rw [upd_ne hne]; exact t1, by rw [delH_ne hne]; exact t2, dqAll_del hF' hdel _ _ t3⟩
  · by_cases hj : i = j
    · subst hj
      rw [hs] at e
      cases e
      exact ⟨.ref p, hσ, p, u, rfl, hm, upd_same, hk.mono sF⟩
    · obtain ⟨v, e1, e2⟩ := R'.sl j sv (by rw [List.getElem?_set_ne hj]; exact e)
      refine ⟨v, e1, ?_⟩
      obtain ⟨v2, e1', e2'⟩ := R.sl j sv e
      rw [e1] at e1'
      cases e1'
      have hfj : (G.lock i p (.frz od (.dK u))).fp j = G.fp j := by unfold Gh.lock; simp only [if_neg (Ne.symm hj)]
      rw [hfj] at e2
      cases sv with
      | d x => exact Dq.mono e2' sF
      | own xs =>
        obtain ⟨p', vs, rfl, hf, hp', ha⟩ := e2
        have hne : p' ≠ p := fun z => hout j (Ne.symm hj) (by rw [hf, ← z]; simp)
        exact ⟨p', vs, rfl, hf, by rw [upd_ne hne]; exact hp', dqAll_del hF' hdel _ _ ha⟩
      | ow2 rows =>
        obtain ⟨p', qs, rfl, hf, hp', hr, nd⟩ := e2
        have hall : ∀ a ∈ p' :: qs, a ≠ p := fun a ha z => hout j (Ne.symm hj) (by rw [hf, ← z]; exact ha)
        refine ⟨p', qs, rfl, hf, by rw [upd_ne (hall p' (by simp))]; exact hp', ?_, nd⟩
        have : ∀ {qs' : List Addr} {rs : List (List Dt)}, (∀ a ∈ qs', a ∈ qs) → Rows K F' H' qs' rs → Rows K (delH F' p) (upd H' p (.dK u)) qs' rs := by
          intro qs' rs hm r
          induction r with
          | nil => exact .nil
          | cons hq a t ih => exact .cons (by rw [upd_ne (hall _ (List.mem_cons_of_mem _ (hm _ (by simp))))]; exact hq) (dqAll_del hF' hdel _ _ a) (ih fun b hb => hm b (List.mem_cons_of_mem _ hb))
        exact this (fun _ z => z) hr
      | dk kv =>
        obtain ⟨p', vs, rfl, hf, hp', ha⟩ := e2
        obtain ⟨p2, vs2, e3, hf2, hp2, ha2⟩ := e2'
        cases e3
        have hne : p' ≠ p := fun z => hout j (Ne.symm hj) (by rw [hf, ← z]; simp)
        refine ⟨p', vs, rfl, hf, by rw [upd_ne hne]; exact hp', ?_⟩
        have : ∀ {vs : List (Key × V)} {ds : List (Int × Dt)}, KvOk K F' vs ds → KvOk K (delH F' p) vs ds := by
          intro vs ds h
          induction h with
          | nil => exact .nil
          | cons h _ ih => exact .cons (dq_del hF' hdel _ _ h) ih
        exact this ha
      | fd kv =>
        obtain ⟨p', o, vs, rfl, hp', ha⟩ := e2'
        exact ⟨p', o, vs, rfl, sF _ _ hp', ha.mono sF⟩
      | tb kv =>
        obtain ⟨p', xs, rfl, hf, hp', ha⟩ := e2
        have hne : p' ≠ p := fun z => hout j (Ne.symm hj) (by rw [hf, ← z]; simp)
        exact ⟨p', xs, rfl, hf, by rw [upd_ne hne]; exact hp', dqTab_del hF' hdel _ _ ha⟩
      | fn x =>
        obtain ⟨f, c, L, k1, k2, k3, k4⟩ := e2'
        exact ⟨f, c, L, k1, k2, sF _ _ k3, sF _ _ k4⟩
      | ex c =>
        obtain ⟨a, k1, k2⟩ := e2'
        exact ⟨a, k1, sF _ _ k2⟩
      | se L D U =>
        obtain ⟨a', p', q', rfl, hf, dx, vL, vD, vU, k1, k2, k3, k4, k5, k6, k7⟩ := e2
        have hne : ∀ x ∈ [a', p', q'], x ≠ p := fun x hx z => hout j (Ne.symm hj) (by rw [hf, ← z]; exact hx)
        exact ⟨a', p', q', rfl, hf, dx, vL, vD, vU, by rw [upd_ne (hne _ (by simp))]; exact k1, by rw [upd_ne (hne _ (by simp))]; exact k2, by rw [upd_ne (hne _ (by simp))]; exact k3, dq_del hF' hdel _ _ k4, dqAll_del hF' hdel _ _ k5, dqAll_del hF' hdel _ _ k6, k7⟩
      | sl L D U =>
        obtain ⟨a', p', q', dx, vL, rfl, k1, k2, k3, k4⟩ := e2'
        exact ⟨a', p', q', dx, vL, rfl, sF _ _ k1, k2.mono sF, k3.mono sF, k4.mono sF⟩
      | town => exact e2
  · by_cases hj : j = i
    · subst hj
      rw [hm] at ha
      rw [List.mem_singleton.mp ha]
      have hn : upd H' p (.dK u) p ≠ none := by
        rw [upd_same]
        exact fun z => nomatch z
      exact ⟨by unfold delH; rw [if_pos rfl], hn, q3, q4⟩
    · have hne : a ≠ p := fun z => hout j hj (by rw [← z]; exact ha)
      obtain ⟨e1, e2, e3, e4⟩ := R'.fr j a (by unfold Gh.lock; simp only [if_neg hj]; exact ha)
      refine ⟨by rw [delH_ne hne]; exact e1, by rw [upd_ne hne]; exact e2, (R.fr j a ha).2.2.1, e4⟩
  · obtain ⟨e1, e2, e3, e4⟩ := R'.ex e he
    obtain ⟨f1, f2, f3, f4⟩ := R.ex e he
    have hne : e.1 ≠ p := fun z => f4 i (by rw [z]; exact hmem)
    exact ⟨by rw [upd_ne hne]; exact e1, by rw [delH_ne hne]; exact e2, f3, f4⟩
end
section
variable {X : Cx} {XE : Str → Hp → Prop} {e : Expr} {fl : SA} {i : Nat}
/-- a comprehension that walks a dict of its own -/
theorem lock_of {σ : L2.St} {H : Hp} {Q : VK} (h : tL X.K XE (lLock i fl) σ H Q) : tLockE (tL X.K XE fl) σ H Q := by
  obtain ⟨G, ρ, W, F, R, p⟩ := h
  unfold lLock at p
  split at p
  · rename_i kvs hs
    obtain ⟨v, h1, a, u, rfl, h2, h3, h4⟩ := R.sl i _ hs
    refine ⟨a, .dK u, h3, trivial, fun od => ⟨_, _, W, _, R.lock hs h1 h3 h2 h4, ?_⟩⟩
    cases hf : fl (ρ.set i (some (.fd kvs))) W with
    | ok r =>
      rw [hf] at p
      intro np vs F' H' s' R' fr hnp hF hv
      have hF' : F' a = some (.frz od (.dK u)) := s' _ _ upd_same
      have hne : np ≠ a := fun z => by rw [z, hF'] at hF; cases hF
      refine ⟨R'.fh _ _ hF', ?_⟩
      obtain ⟨f1, f2, f3, f4⟩ := fr
      have q1 := (R.fr i a (by rw [h2]; simp)).1
      refine p np vs (delH F' a) _ (fun b o e => ?_) (R.unlock hs h1 h3 h2 h4 R' s') ⟨?_, fun j hj => ?_, f3, f4⟩ (by rw [upd_ne hne]; exact hnp) (by rw [delH_ne hne]; exact hF) (dqAll_del hF' (fun b hb => delH_ne hb) _ _ hv)
      · have hb : b ≠ a := ne_of_none e q1
        rw [delH_ne hb]
        exact s' b o (by rw [upd_ne hb]; exact e)
      · unfold Gh.lock at f1
        simp only at f1
        rw [upd_ne hne] at f1
        exact f1
      · have := f2 j
        unfold Gh.lock at this
        simp only at this
        by_cases hj2 : j = i
        · subst hj2
          rw [h2] at hj
          exact hne (List.mem_singleton.mp hj)
        · rw [if_neg hj2] at this
          exact this hj
    | exc c => rw [hf] at p; exact p.elim
    | bad => rw [hf] at p; exact p.elim
  · exact p.elim
theorem l_lock (i : Nat) (h : PE X e (tL X.K XE fl)) : PE X e (tL X.K XE (lLock i fl)) := (pe_lock h).weak fun _ _ _ => lock_of
end
end Sx

namespace Sx
open PySem PySem.Spec PyProof.Rows L2
/-! ### what a law's derivations stand on -/
def fuelI (i : Nat) (ρ : Sl) : Nat := match ρ[i]? with
  | some (some (.d (.int n))) => n.natAbs + 1
  | _ => 0
abbrev FnP (K : PySem.W.Frag) (x : Str) (st : Stmt) (f : Addr) (fd : FuncData) : Prop := FunD K x x (defArgs st) (defBody st) (defScope st) [] [] f fd
theorem toFun {K : PySem.W.Frag} {x : Str} {st : Stmt} {f : Addr} {fd : FuncData} (F : FnP K x st f fd) : Fun K x x st f fd := by
  obtain ⟨⟨oc, od, dV, kV, doc, pm, an, cdv, ct, osl, e, h1, h2, h3, h4⟩, kp⟩ := F
  refine ⟨⟨oc, od, kV, doc, pm, an, cdv, ct, osl, ?_, h1, h2⟩, kp⟩
  rw [e]
  have h : dV = Value.none := by
    rcases h3 with ⟨_, h⟩ | h
    · exact h
    · obtain ⟨_, _, _, _, _, _, _⟩ := h
      simp_all
  rw [h]
def CalP (P : Program) (w : World) (K : PySem.W.Frag) (mg : Str → Option Value) (base : Heap) (x : Str) (k n : Nat) (ps : List Str) (Fs : List Dt → Res Dt) : Prop :=
  ∃ f fd, FnOk P w K mg base CX0 k f fd ps (spP K n Fs) ∧ mg x = some (.ref f) ∧ PySem.W.keepIn K (.ref f) = true ∧ Binds K fd ps []
def CalL (P : Program) (w : World) (K : PySem.W.Frag) (mg : Str → Option Value) (base : Heap) (x : Str) (k n : Nat) (ps : List Str) (Fs : List Dt → Res (List Dt)) : Prop :=
  ∃ f fd, FnOk P w K mg base CX0 k f fd ps (spL K n Fs) ∧ mg x = some (.ref f) ∧ PySem.W.keepIn K (.ref f) = true ∧ Binds K fd ps []
def CalT (P : Program) (w : World) (K : PySem.W.Frag) (mg : Str → Option Value) (base : Heap) (x : Str) (k n : Nat) (ps : List Str) (Fs : List Dt → List Dt → Res (Dt × List Dt)) : Prop :=
  ∃ f fd, FnOk P w K mg base CX0 k f fd ps (spT K n Fs) ∧ mg x = some (.ref f) ∧ PySem.W.keepIn K (.ref f) = true ∧ Binds K fd ps []
theorem units64 {k : Nat} {A : Around} (h : Room k A) : A.units + 64 < cLine := by have := h.un; omega
theorem units65 {k : Nat} {A : Around} (h : Room k A) : A.units + 65 < cLine := by have := h.un; omega
theorem units1 {k : Nat} {A : Around} (h : Room k A) : A.units + 1 < cLine := by have := h.un; omega
section
variable {X : Cx} {XE : Str → Hp → Prop} {x : Str} {pos : Pos}
theorem d_gint {i : Int} (hg : Gl X x) (hm : ∃ t, X.mg x = some (.int i t)) (hd : (x == ("__debug__" : Str)) = false := by decide) : PE X (.Name x pos) (tE X.K XE (eC (.int i))) := by
  obtain ⟨t, hm⟩ := hm
  exact d_c (pe_glob (v := .int i) hg hm ⟨t, rfl⟩ hd) fun _ => .int i
/-- a global tuple of ints -/
def KTup (K : PySem.W.Frag) (a : Addr) (is : List Int) : Prop := ∃ o its n, K.lookup a = some o ∧ o.cls = .type "tuple" ∧ o.data = .seq its n ∧ its.size ≤ sizeLine ∧ Vals (is.map V.int) its.toList ∧ o.dict = none
theorem ints_dq {K : PySem.W.Frag} {F : Hp} : ∀ is : List Int, DqAll K F (is.map V.int) (is.map PyData.int)
  | [] => .nil
  | i :: is => .cons (.int i) (ints_dq is)
theorem d_gtup {is : List Int} (hg : Gl X x) (hm : ∃ a, X.mg x = some (.ref a) ∧ KTup X.K a is) (hd : (x == ("__debug__" : Str)) = false := by decide) : PE X (.Name x pos) (tE X.K XE (eC (.tuple (is.map PyData.int)))) := by
  obtain ⟨a, hm, hk⟩ := hm
  exact d_c (pe_glob (v := .ref a) hg hm rfl hd) fun _ => by
    obtain ⟨o, its, n, h1, h2, h3, h4, h5, h6⟩ := hk
    exact .tup (.inr ⟨o, its, n, h1, h2, h3, h4, h5⟩) (ints_dq is) (.inr ⟨o, h1, h6⟩)
end
/-- what the derivations ask of the names -/
structure Glob (K : PySem.W.Frag) (mg : Str → Option Value) : Prop where
  len_ : mg "len" = none
  sum_ : mg "sum" = none
  all_ : mg "all" = none
  any_ : mg "any" = none
  tuple_ : mg "tuple" = none
  list_ : mg "list" = none
  abs_ : mg "abs" = none
  int_ : mg "int" = none
  str_ : mg "str" = none
  bool_ : mg "bool" = none
  max_ : mg "max" = none
  min_ : mg "min" = none
  dict_ : mg "dict" = none
  range_ : mg "range" = none
  enumerate_ : mg "enumerate" = none
  zip_ : mg "zip" = none
  sorted_ : mg "sorted" = none
  isinstance : mg "isinstance" = none
def HasMost (mg : Str → Option Value) : Prop := ∃ t, mg "MOST" = some (.int 1000000 t)
def HasZero (K : PySem.W.Frag) (mg : Str → Option Value) : Prop := ∃ a, mg "ZERO" = some (.ref a) ∧ KTup K a [0, 1]
/-! ### the head's own fact: ZERO -/
theorem exZ_ok {K : PySem.W.Frag} (h : exZ K = true) : KTup K (He.ga K "ZERO") [0, 1] := by
  unfold exZ at h
  split at h
  · rename_i o ho
    split at h
    · rename_i c its n hc hd
      simp only [Bool.and_eq_true, decide_eq_true_eq] at h
      obtain ⟨h1, h2, h3, h4⟩ := h
      subst h1
      refine ⟨o, its, n, ho, hc, hd, Nat.le_trans h2 (by decide), ?_, Option.isNone_iff_eq_none.mp h4⟩
      unfold isZ at h3
      split at h3
      · rename_i i t j u e
        rw [e]
        simp only [Bool.and_eq_true, decide_eq_true_eq] at h3
        obtain ⟨rfl, rfl⟩ := h3
        exact .cons ⟨t, rfl⟩ (.cons ⟨u, rfl⟩ .nil)
      · cases h3
    · cases h
  · cases h
theorem exL0_ex {ex : PySem.W.Frag → Bool} {K : PySem.W.Frag} (h : exL0 ex K = true) : ex K = true := by
  unfold exL0 at h
  simp only [Bool.and_eq_true] at h
  exact h.1
theorem exL0_tabs {ex : PySem.W.Frag → Bool} {K : PySem.W.Frag} {H : Hp} (h : exL0 ex K = true) : TabsF (tabsOf K) H H := by
  unfold exL0 at h
  simp only [Bool.and_eq_true, List.isEmpty_iff] at h
  intro p hp
  unfold tabsOf at hp
  rw [h.2] at hp
  cases hp
theorem law_end {K : PySem.W.Frag} {H : Hp} {a : Addr} {ns : List Int} {Fs : List Dt → Res Dt} {E : XK} (h : Fs [.list (ns.map PyData.int)] = .ok (.bool true)) (tb : TabsF (tabsOf K) H H) (hS : SqL K H a (ns.map V.int)) : spP K 1 Fs [V.ref a] H (fun v _ => v = V.bl true) E := by
  refine ⟨H, [.list (ns.map PyData.int)], .refl _, tb, .cons (.lst hS (ints_dq ns)) .nil, rfl, ?_⟩
  rw [h]
  intro v F' H' _ hv
  cases hv
  rfl
end Sx

namespace Sx
open PySem PySem.Spec PyProof.Rows L2
/-! ### rows of own lists -/
section
variable {K : PySem.W.Frag} {G : Gh} {ρ : Sl} {W : Tw} {σ : L2.St} {F H : Hp}
def Gh.ownL (G : Gh) (i : Nat) (L : List Addr) : Gh := { G with fp := fun j => if j = i then L else G.fp j }
theorem Gh.ownL_same (G : Gh) (i : Nat) (L : List Addr) : SameB G (G.ownL i L) := ⟨rfl, rfl, rfl, rfl, rfl⟩
theorem Rel.takeL {i : Nat} {L : List Addr} {v : V} {sv : SV} (R : Rel K G ρ W σ F H) (hi : i < ρ.length) (hf : ∀ a ∈ L, Fresh G a ∧ H a ≠ none ∧ F a = none) (hsv : SlOk K G.T F H v L sv) :
    Rel K (G.ownL i L) (ρ.set i (some sv)) W (σ.set i (some v)) F H := by
  have hne : ∀ j a, a ∈ (G.ownL i L).fp j → (j = i ∧ a ∈ L) ∨ (j ≠ i ∧ a ∈ G.fp j) := fun j a ha => by
    unfold Gh.ownL at ha
    simp only at ha
    by_cases hj : j = i
    · rw [if_pos hj] at ha; exact .inl ⟨hj, ha⟩
    · rw [if_neg hj] at ha; exact .inr ⟨hj, ha⟩
  refine ⟨R.gr, by rw [List.length_set, List.length_set]; exact R.len, R.t0, R.t1, R.tw, fun j sv e => ?_, fun j k a ha hb => ?_, fun j a ha => ?_, fun e he => ?_, R.xt, R.tb, R.kk⟩
  · by_cases hj : i = j
    · subst hj
      rw [List.getElem?_set_self hi] at e
      cases e
      exact ⟨v, List.getElem?_set_self (by rw [← R.len]; exact hi), by unfold Gh.ownL; simp only [if_true]; exact hsv⟩
    · rw [List.getElem?_set_ne hj] at e ⊢
      obtain ⟨v, h1, h2⟩ := R.sl j sv e
      exact ⟨v, h1, by unfold Gh.ownL; simp only [if_neg (Ne.symm hj)]; exact h2⟩
  · rcases hne j a ha with ⟨h1, h2⟩ | ⟨h1, h2⟩ <;> rcases hne k a hb with ⟨h3, h4⟩ | ⟨h3, h4⟩
    · rw [h1, h3]
    · exact absurd h4 ((hf a h2).1.2.1 k)
    · exact absurd h2 ((hf a h4).1.2.1 j)
    · exact R.dj j k a h2 h4
  · rcases hne j a ha with ⟨h1, h2⟩ | ⟨h1, h2⟩
    · obtain ⟨⟨f1, f2, f3, f4⟩, f5, f6⟩ := hf a h2
      exact ⟨f6, f5, f1, f3⟩
    · exact R.fr j a h2
  · obtain ⟨h1, h2, h3, h4⟩ := R.ex e he
    refine ⟨h1, h2, h3, fun j hj => ?_⟩
    rcases hne j _ hj with ⟨_, q⟩ | ⟨_, q⟩
    · exact (hf _ q).1.2.2.2 e he rfl
    · exact h4 j q
end
section
variable {X : Cx} {XE : Str → Hp → Prop} {st : Stmt} {fa : SS}
end
/-! a comprehension that makes rows -/
section
variable {X : Cx} {XE : Str → Hp → Prop} {it : SA} {g : SG} {e : SA} {is vs : List Nat} {i : Nat} {st : Stmt}
end
/-! reading and writing an item of a row -/
section
variable {K : PySem.W.Frag} {G : Gh} {ρ : Sl} {W : Tw} {σ : L2.St} {F H : Hp}
end
section
variable {X : Cx} {XE : Str → Hp → Prop} {st : Stmt} {e b c : Expr} {fe fk fl : SE} {pos : Pos} {i : Nat}
end
end Sx

/-! Sx19: dicts: get, put, pop, sorted; dict(tuple). -/
namespace Sx
open PySem PySem.Spec PyProof.Rows L2
section
variable {K : PySem.W.Frag} {G : Gh} {ρ : Sl} {W : Tw} {σ : L2.St} {F H : Hp}
end
/-! ### get, put, pop -/
def get2D (kvs : List (Int × Dt)) (k z : Dt) : Option Dt := match k with
  | .int k => some ((valD kvs k).getD z)
  | _ => none
def nxK (i : Nat) (kvs : List (Int × Dt)) (k d : Dt) (ρ : Sl) (W : Tw) : Out := match k with
  | .int k => if kvs.length < 100000 then .nx (ρ.set i (some (.dk (putD kvs k d)))) W else .bad
  | _ => .bad
def sDput (i : Nat) (k e : SE) : SS := fun ρ W => match ρ[i]? with
  | some (some (.dk kvs)) => rOut (e ρ W) fun d W1 => rOut (k ρ W1) fun kd W2 => nxK i kvs kd d ρ W2
  | _ => .bad
section
variable {X : Cx} {XE : Str → Hp → Prop} {st : Stmt} {e f : Expr} {fe fk fz : SE} {pos p apos p2 cpos : Pos} {i : Nat} {x : Str}
end
end Sx

/-! Sx21: tables: dicts whose keys are tuples of ints. -/
namespace Sx
open PySem PySem.Spec PyProof.Rows L2
section
variable {X : Cx} {pins : List (Addr × Obj)} {σ : L2.St} {H : Hp} {s : Shared}
end
/-! ### readings -/
def keyOf : Dt → Option (List Int)
  | .tuple ds => intsOf ds
  | _ => none
def tabVal (kvs : List (Dt × Dt)) (ks : List Int) : Option Dt := (kvs.find? fun kv => decide (keyOf kv.1 = some ks)).map (·.2)
section
variable {K : PySem.W.Frag} {F H : Hp}
end
section
variable {X : Cx} {XE : Str → Hp → Prop} {a b e value : Expr} {st : Stmt} {fa fk fe : SE} {pos p pos' : Pos} {i : Nat}
/-- t[k] = v, k not yet there -/
def nxTb (i : Nat) (kvs : List (Dt × Dt)) (k d : Dt) (ρ : Sl) (W : Tw) : Out := match keyOf k with
  | some ks => if (tabVal kvs ks).isNone = true ∧ kvs.length < 100000 then .nx (ρ.set i (some (.tb (kvs ++ [(.tuple (ks.map PyData.int), d)])))) W else .bad
  | none => .bad
def sTput (i : Nat) (k e : SE) : SS := fun ρ W => match ρ[i]? with
  | some (some (.tb kvs)) => rOut (e ρ W) fun d W1 => rOut (k ρ W1) fun kd W2 => nxTb i kvs kd d ρ W2
  | _ => .bad
end
section
variable {X : Cx} {XE : Str → Hp → Prop} {a b e value : Expr} {st : Stmt} {fa : SS} {fk fe : SE} {pos p pos' : Pos} {i : Nat} {x : Str}
end
end Sx

namespace Sx
open PySem PySem.Spec PyProof.Rows L2
/-! ### x.count(b), x.index(b): lists of bools, of texts -/
def strsOf : List Dt → Option (List Str)
  | [] => some []
  | .str z :: r => (strsOf r).map (z :: ·)
  | _ => none
def cntD (l x : Dt) : Option Dt := match l, x with
  | .list ds, .bool b => (blsOf ds).map fun bs => .int (bs.count b : Nat)
  | _, _ => none
def idxD (l x : Dt) : Option Dt := match l, x with
  | .list ds, .bool b => (blsOf ds).bind fun bs => if b ∈ bs then some (.int (bs.idxOf b : Nat)) else none
  | .list ds, .str z => (strsOf ds).bind fun zs => if z ∈ zs then some (.int (zs.idxOf z : Nat)) else none
  | _, _ => none
theorem bls_vals {K : PySem.W.Frag} {F : Hp} : ∀ {vs : List V} {ds : List Dt} {bs : List Bool}, DqAll K F vs ds → blsOf ds = some bs → vs = bs.map V.bl
  | _, _, _, .nil, h => by cases h; rfl
  | _, _, _, .cons (d := d) g t, h => by
    cases d <;> simp only [blsOf] at h <;> try (cases h; done)
    rename_i ds b
    cases hb : blsOf ds with
    | none => rw [hb] at h; cases h
    | some r =>
      rw [hb] at h
      cases h
      cases g
      rw [List.map_cons, bls_vals t hb]
theorem strs_vals {K : PySem.W.Frag} {F : Hp} : ∀ {vs : List V} {ds : List Dt} {bs : List Str}, DqAll K F vs ds → strsOf ds = some bs → vs = bs.map V.str
  | _, _, _, .nil, h => by cases h; rfl
  | _, _, _, .cons (d := d) g t, h => by
    cases d <;> simp only [strsOf] at h <;> try (cases h; done)
    rename_i ds b
    cases hb : strsOf ds with
    | none => rw [hb] at h; cases h
    | some r =>
      rw [hb] at h
      cases h
      cases g
      rw [List.map_cons, strs_vals t hb]
theorem bls_items {A : Around} {s : Shared} {b : Bool} : ∀ {us : List Value} {bs : List Bool}, Vals (bs.map V.bl) us → us = bs.map Value.bool
  | _, [], h => by cases h; rfl
  | _, a :: bs, h => by
    cases h with
    | cons r t => rw [List.map_cons, ← bls_items (A := A) (s := s) (b := b) t]; cases r; rfl
theorem bls_eq {A : Around} {s : Shared} {b : Bool} {us : List Value} {bs : List Bool} (h : us = bs.map Value.bool) : SeqAt.ItemsEq A s us bs (.bool b) b := by
  subst h
  refine ⟨by simp, fun j h1 h2 => ?_⟩
  rw [List.getElem_map]
  have := SeqAt.EqAt.bool_bool (A := A) (s := s) bs[j] b
  rw [show decide (bs[j] = b) = (bs[j] == b) by cases bs[j] <;> cases b <;> rfl]
  exact this
theorem strs_eq {A : Around} {s : Shared} {z : Str} {t : Tok} : ∀ {us : List Value} {zs : List Str}, Vals (zs.map V.str) us → SeqAt.ItemsEq A s us zs (.str z t) z
  | _, [], h => by cases h; exact ⟨rfl, fun j h1 _ => absurd h1 (by simp)⟩
  | _, a :: zs, h => by
    cases h with
    | cons r tl =>
      obtain ⟨t', rfl⟩ := r
      obtain ⟨i1, i2⟩ := strs_eq (A := A) (s := s) (z := z) (t := t) tl
      refine ⟨by simp [i1], fun j h1 h2 => ?_⟩
      cases j with
      | zero =>
        have := SeqAt.EqAt.str_str (A := A) (s := s) a t' z t
        rw [show decide ((a :: zs)[0] = z) = (a == z) by rw [Bool.eq_iff_iff]; simp]
        exact this
      | succ j => exact i2 j (by simpa using h1) (by simpa using h2)
/-- a method with one argument that reads data -/
def RM2 (K : PySem.W.Frag) (g : Dt → Dt → Option Dt) : V → List V → Hp → VK → Prop := fun x xs H Q => ∃ y, xs = [y] ∧ RD2 K g x y H Q
theorem RB.sql {K : PySem.W.Frag} {F H : Hp} {x : V} {ds : List Dt} (sm : Same F H) (h : RB K F H x (.list ds)) : ∃ p vs, x = .ref p ∧ SqL K H p vs ∧ DqAll K F vs ds := by
  rcases h with h | ⟨p, vs, ds', rfl, e, hp, ha⟩
  · cases h with
    | lst hs ha => exact ⟨_, _, rfl, sm.seq hs, ha⟩
  · cases e
    exact ⟨p, vs, rfl, .inl (.inl hp), ha⟩
theorem RB.st {K : PySem.W.Frag} {F H : Hp} {x : V} {b : Str} (h : RB K F H x (.str b)) : x = .str b := by
  rcases h with h | ⟨p, vs, ds', rfl, e, hp, ha⟩
  · cases h; rfl
  · cases e
section
variable {X : Cx}
theorem mt_index : MtR X "list.index" (RM2 X.K idxD) := by
  intro pins s σ H x xs v us Q I rx rxs h
  obtain ⟨y, rfl, F, d, e, z, sm, hx, hy, hg, q⟩ := h
  obtain ⟨u, rfl, ru⟩ := rxs.one
  cases d <;> simp only [idxD] at hg <;> try (cases hg; done)
  rename_i ds
  obtain ⟨p, vs, rfl, hs, ha⟩ := hx.sql sm
  cases rx
  obtain ⟨its, rv, hL, hz⟩ := I.list hs
  cases e <;> simp only at hg <;> try (cases hg; done)
  · rename_i b
    obtain rfl := hy.bl
    cases ru
    cases hb : blsOf ds with
    | none => rw [hb] at hg; cases hg
    | some bs =>
      rw [hb] at hg
      simp only [Option.bind_some] at hg
      by_cases hm : b ∈ bs
      · rw [if_pos hm] at hg
        cases hg
        obtain rfl := bls_vals ha hb
        have hi := bls_items (A := X.A) (s := s) (b := b) rv
        refine SeqAt.call_list_index (ks := bs) (k := b) hL.isList (bls_eq hi) (by rw [List.length_map] at hz; exact hz) hm ?_
        exact ⟨.int (bs.idxOf b : Nat), H, I.tok _, ⟨s.toks, rfl⟩, end_int sm rfl q⟩
      · rw [if_neg hm] at hg; cases hg
  · rename_i b
    obtain rfl := hy.st
    obtain ⟨t, rfl⟩ := ru
    cases hb : strsOf ds with
    | none => rw [hb] at hg; cases hg
    | some bs =>
      rw [hb] at hg
      simp only [Option.bind_some] at hg
      by_cases hm : b ∈ bs
      · rw [if_pos hm] at hg
        cases hg
        obtain rfl := strs_vals ha hb
        refine SeqAt.call_list_index (ks := bs) (k := b) hL.isList (strs_eq rv) (by rw [List.length_map] at hz; exact hz) hm ?_
        exact ⟨.int (bs.idxOf b : Nat), H, I.tok _, ⟨s.toks, rfl⟩, end_int sm rfl q⟩
      · rw [if_neg hm] at hg; cases hg
theorem mt_count : MtR X "list.count" (RM2 X.K cntD) := by
  intro pins s σ H x xs v us Q I rx rxs h
  obtain ⟨y, rfl, F, d, e, z, sm, hx, hy, hg, q⟩ := h
  obtain ⟨u, rfl, ru⟩ := rxs.one
  cases d <;> simp only [cntD] at hg <;> try (cases hg; done)
  rename_i ds
  obtain ⟨p, vs, rfl, hs, ha⟩ := hx.sql sm
  cases rx
  obtain ⟨its, rv, ⟨⟨cls, dd, data, sl⟩, n, ho, hc, hdn, hd⟩, hz⟩ := I.list hs
  simp only at hc hd
  subst hc hd
  cases e <;> simp only at hg <;> try (cases hg; done)
  rename_i b
  obtain rfl := hy.bl
  cases ru
  cases hb : blsOf ds with
  | none => rw [hb] at hg; cases hg
  | some bs =>
    rw [hb] at hg
    cases hg
    obtain rfl := bls_vals ha hb
    have hi := bls_items (A := X.A) (s := s) (b := b) rv
    subst hi
    refine call_meets PySem.F.slot_list_count ⟨_, ho, rfl⟩ PySem.F.entry_list_count (PySem.F.args_list_count_2 _ _)
      (SeqAt.list_countAt p _ n dd sl (.bool b) (fun y => match y with | .bool a => a == b | _ => false)) ⟨ho, fun y hy => ?_, ?_⟩
    · obtain ⟨a, _, rfl⟩ := List.mem_map.mp (show y ∈ bs.map Value.bool by simpa using hy)
      exact SeqAt.EqAt.bool_bool a b
    · have ec : ∀ bs : List Bool, (bs.map Value.bool).countP (fun y => match y with | .bool a => a == b | _ => false) = bs.count b := fun bs => by
        rw [List.countP_map]; rfl
      refine ⟨.int (bs.count b : Nat), H, I.tok _, ⟨s.toks, ?_⟩, end_int sm rfl q⟩
      show Value.int (((bs.map Value.bool).toArray.toList.countP (fun y => match y with | .bool a => a == b | _ => false) : Nat) : Int) s.toks = _
      rw [show (bs.map Value.bool).toArray.toList = bs.map Value.bool by simp, ec]
end
def isLst : Dt → Bool
  | .list _ => true
  | _ => false
def eMth (g : Dt → Dt → Option Dt) (a b : SE) : SE := fun ρ W => (a ρ W).bind fun p => if isLst p.1 = true then (b ρ p.2).bind fun q => ofO (g p.1 q.1) q.2 else .bad
section
variable {X : Cx} {XE : Str → Hp → Prop} {o e : Expr} {apos cpos : Pos} {fa fb : SE}
theorem d_mth {name : Str} {id : String} {g : Dt → Dt → Option Dt} (slot : Slot "list" name id) (hty : typeOf (.builtin id) = pure (.type "method_descriptor")) (hm : MtR X id (RM2 X.K g)) (ha : PE X o (tE X.K XE fa)) (hb : PE X e (tE X.K XE fb))
    (hbase : attributeBase o name X.env (eval o X.env) = eval o X.env := by rfl)
    (hfew : ((backTo cpos (starEach [e] X.env)).all (fun x => !x.1) && (backToKw cpos (keywordEach [] X.env)).all (fun x => x.1.isSome)
      && decide (([e]).length + ([] : List Keyword).length + (if ([] : List Keyword).isEmpty then 0 else 1) < 30)) = true := by rfl)
    (hline : (apos.endLine == cpos.line) = true := by rfl) (hs : starEach [e] X.env = (false, eval e X.env) :: starEach [] X.env := by rfl) (hplain : (backTo cpos (starEach [] X.env)).any (·.1) = false := by rfl) :
    PE X (.Call (.Attribute o name apos) [e] [] cpos) (tE X.K XE (eMth g fa fb)) := by
  refine (pe_bm (T := "list") (id := id) PySem.F.plainAttrs_list slot hty hm ha (pa_cons hb pa_nil hs) hbase hfew hline hs hplain).weak fun σ H Q ⟨G, ρ, W, F, R, p⟩ => ?_
  refine ⟨G, ρ, W, F, R, p.of_bind.mono fun d W1 q v F1 H1 s1 R1 hv => ?_⟩
  obtain ⟨hl, q⟩ := Pg.of_ite q
  have hty : tyV X.K "list" v H1 := by
    cases d <;> try (cases hl; done)
    cases hv with
    | lst hs ha => exact .inl ⟨rfl, _, R1.fh.seq hs⟩
  refine ⟨hty, G, ρ, W1, F1, R1, q.of_bind.mono fun e2 W2 q2 y F2 H2 s2 R2 hy => ?_⟩
  obtain ⟨z, hz, q3⟩ := q2.of_ofO
  exact ⟨y, rfl, F2, d, e2, z, R2.fh, .inl (hv.mono s2), .inl hy, hz, fun w F' H' g0 hw => q3 w F' H' ((s1.trans s2).trans g0.ff) (R2.grow g0) hw⟩
theorem d_index (ha : PE X o (tE X.K XE fa)) (hb : PE X e (tE X.K XE fb)) (hbase : attributeBase o "index" X.env (eval o X.env) = eval o X.env := by rfl)
    (hfew : ((backTo cpos (starEach [e] X.env)).all (fun x => !x.1) && (backToKw cpos (keywordEach [] X.env)).all (fun x => x.1.isSome)
      && decide (([e]).length + ([] : List Keyword).length + (if ([] : List Keyword).isEmpty then 0 else 1) < 30)) = true := by rfl)
    (hline : (apos.endLine == cpos.line) = true := by rfl) (hs : starEach [e] X.env = (false, eval e X.env) :: starEach [] X.env := by rfl) (hplain : (backTo cpos (starEach [] X.env)).any (·.1) = false := by rfl) :
    PE X (.Call (.Attribute o "index" apos) [e] [] cpos) (tE X.K XE (eMth idxD fa fb)) := d_mth PySem.F.slot_list_index PySem.F.type_list_index mt_index ha hb hbase hfew hline hs hplain
theorem d_count (ha : PE X o (tE X.K XE fa)) (hb : PE X e (tE X.K XE fb)) (hbase : attributeBase o "count" X.env (eval o X.env) = eval o X.env := by rfl)
    (hfew : ((backTo cpos (starEach [e] X.env)).all (fun x => !x.1) && (backToKw cpos (keywordEach [] X.env)).all (fun x => x.1.isSome)
      && decide (([e]).length + ([] : List Keyword).length + (if ([] : List Keyword).isEmpty then 0 else 1) < 30)) = true := by rfl)
    (hline : (apos.endLine == cpos.line) = true := by rfl) (hs : starEach [e] X.env = (false, eval e X.env) :: starEach [] X.env := by rfl) (hplain : (backTo cpos (starEach [] X.env)).any (·.1) = false := by rfl) :
    PE X (.Call (.Attribute o "count" apos) [e] [] cpos) (tE X.K XE (eMth cntD fa fb)) := d_mth PySem.F.slot_list_count PySem.F.type_list_count mt_count ha hb hbase hfew hline hs hplain
end
end Sx

namespace Sx
open PySem PySem.Spec PyProof.Rows L2
/-! ### exceptions: raise, calls that may raise -/
def XEof (mg : Str → Option Value) (E : XK) : Str → Hp → Prop := fun c H => ∃ C, mg c = some (.ref C) ∧ E (.ref C) none H
/-- what XE wants of an exception is taken by the context -/
def TkX (X : Cx) (XE : Str → Hp → Prop) : Prop := ∃ W : WX, Takes X W ∧ ∀ c σ H, XE c H → ∃ C, X.mg c = some (.ref C) ∧ W (.ref C) none σ H
theorem tk0 {X : Cx} : TkX X X0 := ⟨fun _ _ _ _ => False, fun u s' ⟨a, B, sI, pins, σ, H, cls, d, e, I, nb, up, sky, na, os, ag, w⟩ => w.elim, fun c σ H h => (show False from h).elim⟩
def spX (K : PySem.W.Frag) (mg : Str → Option Value) (n : Nat) (Fs : List Dt → Res Dt) : Sp := fun vs H Q E => ∃ F ds, Same F H ∧ TabsF (tabsOf K) F H ∧ DqAll K F vs ds ∧ ds.length = n ∧ match Fs ds with
  | .ok r => ∀ v F' H', Gr0 K F H F' H' → Dq K F' v r → Q v H'
  | .exc c => ∀ F' H', Gr0 K F H F' H' → XEof mg E c H'
  | .bad => False
def resX {α : Type} : Res α → Tw → Res (α × Tw)
  | .ok r, W => .ok (r, W)
  | .exc c, _ => .exc c
  | .bad, _ => .bad
def eCallX (n : Nat) (Fs : List Dt → Res Dt) (a : SA) : SE := fun ρ W => (a ρ W).bind fun p => if p.1.length = n then resX (Fs p.1) p.2 else .bad
def sRaise (c : Str) : SS := fun _ _ => .exc c
def CalX (P : Program) (w : World) (K : PySem.W.Frag) (mg : Str → Option Value) (base : Heap) (x : Str) (k n : Nat) (ps : List Str) (Fs : List Dt → Res Dt) : Prop :=
  ∃ f fd, FnOk P w K mg base (L2.CX P w) k f fd ps (spX K mg n Fs) ∧ mg x = some (.ref f) ∧ PySem.W.keepIn K (.ref f) = true ∧ Binds K fd ps []
/-- an own class of exceptions -/
structure OwnE (K : PySem.W.Frag) (mg : Str → Option Value) (c : Str) : Prop where
  ex : ∃ C, mg c = some (.ref C) ∧ PySem.W.excIn K C He.veBase "ValueError.__new__" = true ∧ PySem.W.keepIn K (.ref C) = true ∧ PySem.W.subIn K (.ref C) (.type "BaseException") = some true ∧ PySem.W.typeIn K (.ref C) = some (.type "type")
theorem Rel.gr0 {K : PySem.W.Frag} {G : Gh} {ρ : Sl} {W : Tw} {σ : L2.St} {F H : Hp} (R : Rel K G ρ W σ F H) : Gr G.K G.tm G.F0 G.H0 F H := by rw [R.kk]; exact R.gr
section
variable {X : Cx} {XE : Str → Hp → Prop} {e a : Expr} {es : List Expr} {pos p pt p2 cpos : Pos} {fa : SE} {ga : SA} {k n j : Nat} {f : Addr} {fd : FuncData} {ps : List Str} {x t c m : Str}
theorem s_raise (hc : X.calm = true) (tk : TkX X XE) (O : OwnE X.K X.mg c) (hg : Gl X c) (hdb : (c == ("__debug__" : Str)) = false := by decide) :
    PS X (.Raise (some (.Call (.Name c p) [.Constant (.str m) j p2] [] cpos)) none pos) (tS X.K XE (sRaise c)) := by
  obtain ⟨W, tw, hW⟩ := tk
  obtain ⟨C, gC, h1, h2, h3, h4⟩ := O.ex
  refine (ps_raise (W := W) hc tw (pmk_own (C := C) PySem.F.excBase_ValueError h1 gC h2 (raises_own h3 h4) hg hdb)).weak fun D σ H ⟨G, ρ, Wt, F, R, q⟩ => ?_
  obtain ⟨C', g', w'⟩ := hW c σ H (q F H R.gr0)
  rw [gC] at g'
  cases g'
  exact w'
theorem d_callE {Fs : List Dt → Res Dt} (F : FnOk X.prog X.w X.K X.mg X.base (L2.CX X.prog X.w) k f fd ps (spX X.K X.mg n Fs)) (hr : Room k X.A) (hg : Gl X x) (hm : X.mg x = some (.ref f)) (hk : PySem.W.keepIn X.K (.ref f) = true) (hb : Binds X.K fd ps []) (tk : TkX X XE) (ha : PA X (e :: es) (tA X.K XE ga))
    (hdb : (x == ("__debug__" : Str)) = false := by decide) (he : starEach (e :: es) X.env = (false, eval e X.env) :: starEach es X.env := by rfl) (hpl : (backTo pos (starEach es X.env)).any (·.1) = false := by rfl) :
    PE X (.Call (.Name x p) (e :: es) [] pos) (tE X.K XE (eCallX n Fs ga)) := by
  obtain ⟨W, tw, hW⟩ := tk
  refine (pe_callS (E := WE W) F hr hg hm hk hb (passAt tw) ha hdb he hpl).weak fun σ H Q ⟨G, ρ, Wt, Fz, R, q⟩ => ?_
  refine ⟨G, ρ, Wt, Fz, R, q.of_bind.mono fun ds W1 q vs F1 H1 s1 R1 hv => ?_⟩
  obtain ⟨hl, q⟩ := Pg.of_ite q
  refine ⟨F1, ds, R1.fh, R1.tb, hv, hl, ?_⟩
  cases hF : Fs ds with
  | ok r =>
    rw [hF] at q
    exact fun v F' H' g hw => q v F' H' (s1.trans g.ff) (R1.grow g) hw
  | exc c =>
    rw [hF] at q
    exact fun F' H' g => hW c σ H' (q F' H' (R1.grow g).gr0)
  | bad => rw [hF] at q; exact q.elim
end
section
variable {P : Program} {w : World} {K : PySem.W.Frag} {mg : Str → Option Value} {base : Heap} {x qual : Str} {st : Stmt} {f : Addr} {fd : FuncData} {N ps : List Str} {k n : Nat} {B : SS}
theorem tkOf {sc : Scope} {cdv : Value} {A : Around} {outer : List Env} {s : Shared} {H : Hp} {E : XK} : TkX (cxOf (L2.CX P w) P w K mg base N qual sc f cdv A outer s H E) (XEof mg E) :=
  ⟨fun cls d _ H => E cls d H, takes_of rfl rfl rfl rfl, fun c σ H h => h⟩
theorem fn_X (F : Fun K x qual st f fd) (S : FnScope N ps (defScope st)) (hn : ps.length = n)
    (hb : ∀ (cdv : Value) (A : Around) (outer : List Env) (s : Shared) (H : Hp) (E : XK), Room k (A.deeper (envOfC qual (defScope st) s.heap.objs.size f cdv)) → PSs (cxOf (L2.CX P w) P w K mg base N qual (defScope st) f cdv A outer s H E) (defBody st) (tS K (XEof mg E) B)) :
    FnOk P w K mg base (L2.CX P w) (k + 1) f fd ps (spX K mg n (runP N.length B)) := by
  refine F.okX S (fun vs H Q E h => ?_) fun cdv A outer s H vs Q E hr h => ⟨tS K (XEof mg E) B, hb cdv A outer s H E hr, ?_⟩
  · obtain ⟨Fz, ds, _, _, hd, hl, _⟩ := h
    rw [hd.length, hl, hn]
  · obtain ⟨Fz, ds, sm, tb, hd, hl, hm⟩ := h
    have e : L2.start N vs = vs.map some ++ List.replicate (N.length - ds.length) none := by unfold L2.start; rw [hd.length]
    rw [e]
    refine ⟨_, start0 N.length ds, none, Fz, Rel.start sm tb hd, ?_⟩
    unfold runP at hm
    cases hB : B (start0 N.length ds) none with
    | nx ρ W =>
      rw [hB] at hm
      exact fun G' σ' F' H' b s R => hm .non F' H' (by have g := R.gr; unfold Gh.tm at g; rw [b.T0, b.F0, b.H0] at g; exact g.mono fun _ z => nomatch z) .non
    | rt r W =>
      rw [hB] at hm
      cases r with
      | d x => exact fun G' ρ' σ' v F' H' b s R hv => hm v F' H' (by have g := R.gr; unfold Gh.tm at g; rw [b.T0, b.F0, b.H0] at g; exact g.mono fun _ z => nomatch z) hv
      | _ => exact hm.elim
    | exc c =>
      rw [hB] at hm
      exact fun F' H' g => hm F' H' (by unfold Gh.tm at g; exact g.mono fun _ z => nomatch z)
    | rs r ρ W => rw [hB] at hm; exact hm.elim
    | bad => rw [hB] at hm; exact hm.elim
end
end Sx

namespace Sx
open PySem PySem.Spec PyProof.Rows L2
/-! ### an exception that is kept behind its try -/
theorem kxO_ok {P : Program} {w : World} {H : Hp} {h : Heap} {a : Addr} {cls : Value} {oe : Obj} {vs : Array Value} (e : h.get? a = some oe) (z : Zc cls none oe) (d : oe.data = .fields vs) : ObjOk P w H h a (KxO cls a) :=
  ⟨⟨oe, vs, e, z, d⟩, ⟨oe, e⟩, fun _ _ ⟨o, v, q, r⟩ k => ⟨o, v, k o q, r⟩⟩
/-- an object that stands there is tracked from now on -/
theorem Inv_track {X : Cx} {pins : List (Addr × Obj)} {σ : L2.St} {H : Hp} {s : Shared} {a : Addr} {cls : Value} {oe : Obj} {vs : Array Value} (I : Inv X pins σ H s) (ha : s.heap.get? a = some oe) (hz : Zc cls none oe) (hd : oe.data = .fields vs) (na : H a = none)
    (n0 : X.s_0.heap.get? a = none) (nL : a ≠ X.env.locals) (np : ∀ p ∈ X.pn ++ pins, p.1 ≠ a) : Inv X pins σ (upd H a (KxO cls a)) s := by
  have ne0 : ∀ b o, X.s_0.heap.get? b = some o → b ≠ a := fun b o e z => by rw [z, n0] at e; cases e
  have neH : ∀ b (u : HO), H b = some u → b ≠ a := fun b u e z => by rw [z, na] at e; cases e
  refine ⟨I.ok, I.os, I.bare, ⟨I.base.keep, I.base.slot, fun b o e n hx => ?_, I.base.there, fun b xs e => ?_, fun b o u e => ?_, fun b ps e => ?_⟩, I.loc, I.cell, ?_, fun x c e => ?_, fun p hp => ?_, I.hok.laidN (fun _ _ q => q) na (kxO_ok ha hz hd), I.len⟩
  · rw [upd_ne (ne0 b o e)]; exact I.base.free b o e n hx
  · have q := I.base.tups b xs e
    rw [upd_ne (neH b _ q)]; exact q
  · have q := I.base.frzs b o u e
    rw [upd_ne (neH b _ q)]; exact q
  · obtain ⟨m, q⟩ := I.base.tbls b ps e
    exact ⟨m, by rw [upd_ne (neH b _ q)]; exact q⟩
  · rw [upd_ne (Ne.symm nL)]; exact I.free
  · obtain ⟨v, o, ho, hdc⟩ := I.cell x c e
    have : c ≠ a := fun z => by
      rw [z, ha] at ho
      cases ho
      rw [hd] at hdc
      cases hdc
    rw [upd_ne this]; exact I.freeC x c e
  · obtain ⟨h1, h2, h3⟩ := I.pin p hp
    exact ⟨h1, by rw [upd_ne (np p hp)]; exact h2, h3⟩
/-- what the clause wishes: behind it the exception is tracked -/
def wKp (K : PySem.W.Frag) (c : Value) (i : Nat) (ts : Addr → Value → TS) (Wout : WX) (D : Ends) : WX := fun cls d σ H =>
  ∃ b, PySem.W.exmOne K cls c = some b ∧ (b = true → d = none ∧ ∀ a, H a = none → ts a cls { nx := fun σ' H' => H' a = none → D.nx (σ'.set i none) (upd H' a (KxO cls a)), rt := fun _ _ => False, bk := fun _ _ => False, ct := fun _ _ => False } (σ.set i (some (.ref a))) H) ∧
    (b = false → Wout cls d σ H)
section
variable {X : Cx} {x n : Str} {c : Value} {i : Nat} {body suite : List Stmt} {b₀ : Stmt} {np pos pos' : Pos} {tb : WX → TS} {ts : Addr → Value → TS} {Wout : WX}
theorem ps_try_keep (hs : X.stack = X.env :: X.outer) (hf : X.env.frame = some X.env.locals) (hex : X.ex = []) (hN : X.N.Nodup) (hi : X.N[i]? = some n) (hln : X.env.kindOf n = some .local) (hc : Names X x c) (tk : Takes X Wout)
    (hb : ∀ (W : WX) (pn : List (Addr × Obj)) (xe : Value → Shared → Prop), Takes (X.tr pn xe) W → PassesOwn (model X.prog X.w) X.A X.env xe → PSs (X.tr pn xe) body (tb W))
    (hsu : ∀ (a : Addr) (oe : Obj) (cls : Value) (pn : List (Addr × Obj)), PSs (X.suite a ((a, oe) :: pn)) (b₀ :: suite) (ts a cls)) :
    PS X (.Try body [.ExceptHandler (some (.Name x np)) (some n) (b₀ :: suite) pos'] [] [] pos) (fun D σ H => tb (wKp X.K c i ts Wout D) D σ H) := by
  refine ⟨fun pins s σ H D I h => ?_⟩
  have ok := I.ok
  have hfr : X.A.frames = some (X.env :: X.outer) := by rw [ok.frames, hs]
  refine wpAny_Try_except ?_
  refine wpAny_mono ((hb (wKp X.K c i ts Wout D) (X.pn ++ pins) (fun e s₁ => wpAny (model X.prog X.w) X.A (noteFrame e X.env) (fun _ s₂ => wpAny (model X.prog X.w) X.A (setFlight e none) (fun _ s₃ =>
    wpAny (model X.prog X.w) X.A (handleBy e X.env [.ExceptHandler (some (.Name x np)) (some n) (b₀ :: suite) pos']) (SP X pins D) X.xe s₃) X.xe s₂) X.xe s₁) (fun u s' xx => ?_) PassesOwn.looking).run [] s σ H D (I.toTry _) h) (fun f s1 hsp => ?_) (fun e s1 he => he)
  · obtain ⟨a, B, sI, pins', σ', H', cls, d, rfl, J', nb, up, sky, na, os, ag, b, hb1, hyes, hno⟩ := xx
    have J : Inv X pins σ' H' sI := J'.ofTry ok
    have sky' : Sky B (X.env :: X.outer) a (Zc cls d) X.env.locals s'.heap := by rw [← hs]; exact sky
    show wpAny (model X.prog X.w) X.A (noteFrame (.ref a) X.env) _ _ _
    refine Sky.land Zc.steady hfr hf sky' fun h3 fl3 up3 => ?_
    have J3 : Inv X pins σ' H' { s' with heap := h3 } := J.landed nb fl3.1 (up.trans up3) os ag
    obtain ⟨oe3, vs3, he3, hz3, hd3⟩ := fl3.there
    have aB : B.get? a = none := fl3.2.1
    have nfr : a ∉ frs (X.env :: X.outer) := fun hm => by
      obtain ⟨_, o', e', hnf⟩ := fl3.2.2.1.mem hm
      rw [he3] at e'; cases e'
      exact hnf _ hd3
    have nfr' : a ∉ frs X.stack := by rw [hs]; exact nfr
    have nL : a ≠ X.env.locals := fun z => nfr (List.mem_filterMap.mpr ⟨X.env, List.mem_cons_self, by rw [hf, z]⟩)
    have nF : a ∉ X.fs := fun hm => by
      obtain ⟨e, he, q⟩ := List.mem_filterMap.mp hm
      exact nfr (List.mem_filterMap.mpr ⟨e, List.mem_cons_of_mem _ he, q⟩)
    have nsI : sI.heap.get? a = none := by
      cases q : sI.heap.get? a with
      | none => rfl
      | some o =>
        have z := nb a o q nfr'
        rw [aB] at z; cases z
    have n0 : X.s_0.heap.get? a = none := by
      cases q : X.s_0.heap.get? a with
      | none => rfl
      | some o =>
        obtain ⟨o', z⟩ := J.base.there a o q (by rw [hex]; exact fun z => nomatch z)
        rw [nsI] at z; cases z
    have npn : ∀ p ∈ X.pn ++ pins, p.1 ≠ a := fun p hp z => by
      have := (J.pin p hp).1
      rw [z, nsI] at this; cases this
    have S3 := J3.suite he3 hd3 na nL nF
    refine wpAny_handleBy_cons (codeAny_handlers_test ?_) (by intro q; cases q)
    have LT : PySem.W.Looks (model X.prog X.w) h3 (typeOf (.ref a)) cls := fun A Q E s k q => wpAny_typeOf_ref (k _ _ he3) (by rw [hz3.1]; exact q)
    have LM := PySem.W.exm_one (M := model X.prog X.w) (J3.kIn) LT hb1
    have test : ∀ {Q : Value → Shared → Prop} {E : Value → Shared → Prop}, Q c { s' with heap := h3 } → wpAny (model X.prog X.w) (X.A.mark (some (.ref a))) (eval (.Name x np) X.env) Q E { s' with heap := h3 } := fun {Q E} q => by
      obtain ⟨hg, hdbg, hm | ⟨hm, hv, hnn⟩⟩ := hc
      · exact ld_glob (X := X.suite a ((a, oe3) :: (X.pn ++ pins))) S3 hg hm q hdbg
      · exact ld_blt (X := X.suite a ((a, oe3) :: (X.pn ++ pins))) S3 hg hm hv q hnn hdbg
    refine test (LM.here ?_)
    cases b with
    | true =>
      obtain ⟨hdn, hy⟩ := hyes rfl
      subst hdn
      refine codeAny_handlers_suite_as ?_
      refine HandSPX.lands_againZ fl3 fun h4 fl4 up4 => ?_
      have J4 : Inv X pins σ' H' { s' with heap := h4 } := J.landed nb fl4.1 ((up.trans up3).trans up4) os ag
      obtain ⟨oe4, vs4, he4, hz4, hd4⟩ := fl4.there
      have S4 := J4.suite he4 hd4 na nL nF
      refine store_ok (X := X.suite a ((a, oe4) :: (X.pn ++ pins))) (v := .ref a) S4 hN hi (.inl hln) rfl (fun s5 S5 => ?_) (.inr hln)
      refine wpAny_mono ((hsu a oe4 cls (X.pn ++ pins)).run [] s5 _ H' _ S5 (hy a na)) (fun f s6 hsp => ?_) (fun _ _ z => False.elim z)
      cases f with
      | next =>
        obtain ⟨σ6, H6, S6, q6⟩ := hsp
        refine gone_ok (X := X.suite a ((a, oe4) :: (X.pn ++ pins))) S6 hN hi hln fun s7 S7 => ?_
        obtain ⟨p1, p2, _⟩ := S7.pin (a, oe4) (List.mem_append.mpr (.inl List.mem_cons_self))
        exact ⟨_, _, Inv_track (S7.unsuite ok) p1 hz4 hd4 p2 n0 nL npn, q6 p2⟩
      | brk =>
        obtain ⟨σ6, H6, S6, q6⟩ := hsp
        exact q6.elim
      | cont =>
        obtain ⟨σ6, H6, S6, q6⟩ := hsp
        exact q6.elim
      | ret u =>
        obtain ⟨v6, σ6, H6, S6, r6, q6⟩ := hsp
        exact q6.elim
    | false =>
      show wpAny _ X.A (handleBy (.ref a) X.env []) _ _ _
      refine wpAny_handleBy_nil ?_
      obtain ⟨k1, k2, k3, oe, vs, T, oT, ts', he, hz, hd, h1, hr⟩ := id fl3
      unfold PySem.passOn
      refine wpAny_bind (wpAny_field he hd h1 ?_)
      rw [if_neg (show ¬ ((Value.ref T == Value.none) = true) from by simp)]
      have fin : wpAny (model X.prog X.w) X.A (setFlight (.ref a) X.env.frame) (fun _ s4 => wpAny (model X.prog X.w) X.A (throw (.ref a) : Sem Flow) (SP X pins D) X.xe s4) X.xe { s' with heap := h3 } := by
        rw [hf]
        refine HandSPX.setFlight_upZ fl3 fun h4 hh4 up4 => wpAny_throw (tk _ _ ?_)
        exact ⟨a, B, sI, pins, σ', H', cls, d, rfl, J, nb, (up.trans up3).trans up4, .inr (.inr (by rw [hs]; exact hh4)), na, os, ag, hno rfl⟩
      first
        | exact wpAny_bind (wpAny_pure (wpAny_bind fin))
        | exact wpAny_bind fin
  · cases f with
    | next =>
      obtain ⟨σ', H', J', q⟩ := hsp
      exact wpAny_execs_nil ⟨σ', H', J'.ofTry ok, q⟩
    | brk =>
      obtain ⟨σ', H', J', q⟩ := hsp
      exact ⟨σ', H', J'.ofTry ok, q⟩
    | cont =>
      obtain ⟨σ', H', J', q⟩ := hsp
      exact ⟨σ', H', J'.ofTry ok, q⟩
    | ret u =>
      obtain ⟨v, σ', H', J', r, q⟩ := hsp
      exact ⟨v, σ', H', J'.ofTry ok, r, q⟩
end
end Sx

namespace Sx
open PySem PySem.Spec PyProof.Rows L2
/-! ### the outcome of a call: a result or the class of an exception -/
structure ExF (K : PySem.W.Frag) (mg : Str → Option Value) : Prop where
  glo : ∀ c ∈ excN, mg c = some (.ref (He.ga K c))
  top : mg "LadderError" = some (.ref (He.ga K "LadderError"))
  exm : ∀ c ∈ excN, PySem.W.exmOne K (.ref (He.ga K c)) (.ref (He.ga K "LadderError")) = some true
  own : ∀ c ∈ excN, ExcC K (He.ga K c)
  isa : ∀ c ∈ excN, ∀ d ∈ excN, PySem.W.kitOne K (.ref (He.ga K c)) (.ref (He.ga K d)) = some (decide (c = d))
  isv : ∀ c ∈ excN, PySem.W.kitOne K (.ref (He.ga K c)) (.type "ValueError") = some true
  oe : ∀ c ∈ excN, OwnE K mg c
/-- try: r = f(..) / except LadderError as e: c = e -/
def sTryC (jr jc ie n : Nat) (Fs : List Dt → Res Dt) (ga : SA) : SS := fun ρ W => match ga ρ W with
  | .ok p => if p.1.length = n ∧ jr < ρ.length ∧ jc < ρ.length ∧ ie < ρ.length ∧ jc ≠ ie then match Fs p.1 with
    | .ok r => .nx (ρ.set jr (some (.d r))) p.2
    | .exc c => if c ∈ excN then .nx ((ρ.set jc (some (.ex c))).set ie none) p.2 else .bad
    | .bad => .bad
    else .bad
  | _ => .bad
section
variable {X : Cx} {XE : Str → Hp → Prop} {e : Expr} {es : List Expr} {p pos pos1 pos2 pos3 pos' np q1 q2 q3 : Pos} {ga : SA} {k n jr jc ie : Nat} {f : Addr} {fd : FuncData} {ps : List Str} {x nr nc ne : Str}
/-! is it None -/
def eIsN (i : Nat) : SE := fun ρ W => match ρ[i]? with
  | some (some (.d x)) => .ok (.bool (isNone x), W)
  | some (some (.ex _)) => .ok (.bool false, W)
  | _ => .bad
/-! isinstance of a kept exception -/
def eIsX (i : Nat) (d : Str) : SE := fun ρ W => match ρ[i]? with
  | some (some (.ex c)) => if c ∈ excN ∧ (d = "ValueError" ∨ d ∈ excN) then .ok (.bool (decide (d = "ValueError") || decide (c = d)), W) else .bad
  | _ => .bad
def rIsX (K : PySem.W.Frag) : List V → Hp → VK → Prop := fun xs H Q => ∃ (a D : Addr) (c : V) (cv : Value) (b : Bool), xs = [.ref a, c] ∧ H a = some (KxO (.ref D) a) ∧ ExcC K D ∧ (∀ u, RelV c u → u = cv) ∧ PySem.W.kitOne K (.ref D) cv = some b ∧ Q (.bl b) H
theorem call_isX : CallR X (.builtin "isinstance") (rIsX X.K) := by
  intro pins s σ H xs us Q I r h
  obtain ⟨a, D, c, cv, b, rfl, hH, C, hcv, e, q⟩ := h
  cases r with
  | cons rx rr =>
    cases rr with
    | cons rt rr =>
      cases rr
      cases rx
      have ec := hcv _ rt
      subst ec
      obtain ⟨⟨oe, vs, hget, hz, hv⟩, _⟩ := I.hok a _ hH
      have J : PySem.W.InstAt s.heap a oe D none := by
        obtain ⟨oc, od, oda, osl⟩ := oe
        obtain ⟨h1, h2⟩ := hz
        dsimp only at h1 h2 hv
        subst h1 h2 hv
        exact ⟨hget, rfl, rfl, trivial⟩
      exact PySem.W.kia_one (PySem.W.handS_kitx_exc C.hg C.hk C.hs C.hd C.ha C.hn C.ht C.hm) I.kIn J e (fun z => nomatch z) fun tk => ⟨.bl b, H, I.kept (t' := tk) fun _ _ z => z, rfl, q⟩
theorem d_isX {i : Nat} {d : Str} {pt : Pos} (EF : ExF X.K X.mg) (hd : d ∈ excN) (hg : Gl X "isinstance") (hm : X.mg "isinstance" = none) (hgt : Gl X d) (hx : PE X (.Name x q1) (tVar i)) (hdt : (d == ("__debug__" : Str)) = false := by decide)
    (he : starEach [.Name x q1, .Name d pt] X.env = (false, eval (.Name x q1) X.env) :: starEach [.Name d pt] X.env := by rfl) (he2 : starEach [.Name d pt] X.env = (false, eval (.Name d pt) X.env) :: starEach [] X.env := by rfl) (hpl : (backTo pos (starEach [.Name d pt] X.env)).any (·.1) = false := by rfl) :
    PE X (.Call (.Name "isinstance" p) [.Name x q1, .Name d pt] [] pos) (tE X.K XE (eIsX i d)) := by
  refine (pe_callB call_isX hg hm (by decide +kernel) (pa_cons hx (pa_cons (pe_glob (v := .ref (He.ga X.K d)) hgt (EF.glo d hd) rfl hdt) pa_nil he2) he) (by decide) (by decide) he hpl).weak fun σ H Q ⟨G, ρ, W, F, R, q⟩ => ?_
  unfold eIsX at q
  split at q
  · rename_i c hs
    obtain ⟨hc, q⟩ := Pg.of_ite q
    obtain ⟨v, h1, a, rfl, h2⟩ := R.sl i _ hs
    have hne : decide (d = "ValueError") = false := by
      refine decide_eq_false fun z => ?_
      rw [z] at hd
      exact absurd hd (by decide +kernel)
    refine ⟨_, h1, a, He.ga X.K c, .ref (He.ga X.K d), .ref (He.ga X.K d), decide (c = d), rfl, R.fh _ _ h2, EF.own c hc.1, fun u z => (show u = _ from z), EF.isa c hc.1 d hd, ?_⟩
    refine q _ F H (.refl _) R ?_
    show Dq X.K F (.bl (decide (c = d))) (.bool (decide (d = "ValueError") || decide (c = d)))
    rw [hne]
    exact .bl _
  · exact q.elim
theorem d_isXV {i : Nat} {pt : Pos} (EF : ExF X.K X.mg) (hg : Gl X "isinstance") (hm : X.mg "isinstance" = none) (hgt : Gl X "ValueError") (hmt : X.mg "ValueError" = none) (hx : PE X (.Name x q1) (tVar i))
    (he : starEach [.Name x q1, .Name "ValueError" pt] X.env = (false, eval (.Name x q1) X.env) :: starEach [.Name "ValueError" pt] X.env := by rfl) (he2 : starEach [.Name "ValueError" pt] X.env = (false, eval (.Name "ValueError" pt) X.env) :: starEach [] X.env := by rfl) (hpl : (backTo pos (starEach [.Name "ValueError" pt] X.env)).any (·.1) = false := by rfl) :
    PE X (.Call (.Name "isinstance" p) [.Name x q1, .Name "ValueError" pt] [] pos) (tE X.K XE (eIsX i "ValueError")) := by
  refine (pe_callB call_isX hg hm (by decide +kernel) (pa_cons hx (pa_cons (pe_bltn (v := .ty "ValueError") hgt hmt (by decide +kernel) rfl (by decide) (by decide)) pa_nil he2) he) (by decide) (by decide) he hpl).weak fun σ H Q ⟨G, ρ, W, F, R, q⟩ => ?_
  unfold eIsX at q
  split at q
  · rename_i c hs
    obtain ⟨hc, q⟩ := Pg.of_ite q
    obtain ⟨v, h1, a, rfl, h2⟩ := R.sl i _ hs
    refine ⟨_, h1, a, He.ga X.K c, .ty "ValueError", .type "ValueError", true, rfl, R.fh _ _ h2, EF.own c hc.1, fun u z => (show u = _ from z), EF.isv c hc.1, ?_⟩
    exact q _ F H (.refl _) R (.bl true)
  · exact q.elim
end
/-! a def whose only argument is an exception -/
def spN (K : PySem.W.Frag) (Fs : Str → Res Dt) : Sp := fun vs H Q _ => ∃ F a c, vs = [.ref a] ∧ Same F H ∧ TabsF (tabsOf K) F H ∧ F a = some (KxO (.ref (He.ga K c)) a) ∧ match Fs c with
  | .ok r => ∀ v F' H', Gr0 K F H F' H' → Dq K F' v r → Q v H'
  | _ => False
def CalN (P : Program) (w : World) (K : PySem.W.Frag) (mg : Str → Option Value) (base : Heap) (x : Str) (k : Nat) (ps : List Str) (Fs : Str → Res Dt) : Prop :=
  ∃ f fd, FnOk P w K mg base CX0 k f fd ps (spN K Fs) ∧ mg x = some (.ref f) ∧ PySem.W.keepIn K (.ref f) = true ∧ Binds K fd ps []
def runN (m : Nat) (B : SS) (c : Str) : Res Dt := match B (some (.ex c) :: List.replicate (m - 1) none) none with
  | .rt (.d x) _ => .ok x
  | _ => .bad
section
variable {X : Cx} {XE : Str → Hp → Prop} {p pos q1 : Pos} {k i : Nat} {f : Addr} {fd : FuncData} {ps : List Str} {x y : Str}
end
section
variable {P : Program} {w : World} {K : PySem.W.Frag} {mg : Str → Option Value} {base : Heap} {x qual : Str} {st : Stmt} {f : Addr} {fd : FuncData} {N ps : List Str} {k n : Nat} {B : SS}
theorem Rel.startN {F H : Hp} {a : Addr} {c : Str} {m : Nat} (sm : Same F H) (tb : TabsF (tabsOf K) F H) (h : F a = some (KxO (.ref (He.ga K c)) a)) : Rel K ⟨K, none, F, H, [], none, fun _ => []⟩ (some (.ex c) :: List.replicate m none) none (some (.ref a) :: List.replicate m none) F H :=
  ⟨.refl sm, by simp, fun t e => (by cases e), fun t e => (by cases e), trivial, fun i sv e => (by
    cases i with
    | zero => cases e; exact ⟨.ref a, rfl, a, rfl, h⟩
    | succ i =>
      rw [List.getElem?_cons_succ, List.getElem?_replicate] at e
      split at e <;> cases e), fun i j a ha => (by cases ha), fun i a ha => (by cases ha), fun e he => (by cases he), fun e he => (by cases he), tb, rfl⟩
theorem fn_N (F : Fun K x qual st f fd) (S : FnScope N ps (defScope st)) (hn : ps.length = 1)
    (hb : ∀ (cdv : Value) (A : Around) (outer : List Env) (s : Shared) (H : Hp) (E : XK), Room k (A.deeper (envOfC qual (defScope st) s.heap.objs.size f cdv)) → PSs (cxOf CX0 P w K mg base N qual (defScope st) f cdv A outer s H E).nox (defBody st) (tS K X0 B)) :
    FnOk P w K mg base CX0 (k + 1) f fd ps (spN K (runN N.length B)) := by
  refine F.ok S (fun vs H Q E h => ?_) fun cdv A outer s H vs Q E hr h => ⟨tS K X0 B, hb cdv A outer s H E hr, ?_⟩
  · obtain ⟨Fz, a, c, rfl, _⟩ := h
    rw [hn]; rfl
  · obtain ⟨Fz, a, c, rfl, sm, tb, ha, hm⟩ := h
    have e : L2.start N [.ref a] = some (.ref a) :: List.replicate (N.length - 1) none := by unfold L2.start; rfl
    rw [e]
    refine ⟨_, some (.ex c) :: List.replicate (N.length - 1) none, none, Fz, Rel.startN sm tb ha, ?_⟩
    unfold runN at hm
    cases hB : B (some (.ex c) :: List.replicate (N.length - 1) none) none with
    | nx ρ W => rw [hB] at hm; exact hm.elim
    | rt r W =>
      rw [hB] at hm
      cases r with
      | d x => exact fun G' ρ' σ' v F' H' b s R hv => hm v F' H' (by have g := R.gr; unfold Gh.tm at g; rw [b.T0, b.F0, b.H0] at g; exact g.mono fun _ z => nomatch z) hv
      | _ => exact hm.elim
    | exc c => rw [hB] at hm; exact hm.elim
    | rs r ρ W => rw [hB] at hm; exact hm.elim
    | bad => rw [hB] at hm; exact hm.elim
end
end Sx

namespace Sx
open PySem PySem.Spec PyProof.Rows L2
/-! ### the head's own fact: the classes of exceptions -/
theorem exC1_ok {K : PySem.W.Frag} {c : Str} (h : exC1 K c = true) : ExcC K (He.ga K c) := by
  unfold exC1 at h
  simp only [Bool.and_eq_true, decide_eq_true_eq] at h
  obtain ⟨h1, h2, h3, h4, h5, h6, h7, h8⟩ := h
  exact ⟨He.eqO_ok h1, He.eqO_ok h2, h3, h4, He.eqO_ok h5, He.eqO_ok h6, h7, h8⟩
theorem exE_ok {K : PySem.W.Frag} {mg : Str → Option Value} (h : exE K = true) (g : ∀ c ∈ excN, mg c = some (.ref (He.ga K c))) (t : mg "LadderError" = some (.ref (He.ga K "LadderError"))) : ExF K mg := by
  unfold exE at h
  rw [List.all_eq_true] at h
  have h' : ∀ c ∈ excN, exC1 K c = true ∧ exC2 K c = true ∧ (He.Fa.exc c).ok K = true := fun c hc => by
    have := h c hc
    simp only [Bool.and_eq_true] at this
    exact this
  have h2 : ∀ c ∈ excN, PySem.W.kitOne K (.ref (He.ga K c)) (.type "ValueError") = some true ∧ PySem.W.exmOne K (.ref (He.ga K c)) (.ref (He.ga K "LadderError")) = some true ∧ ∀ d ∈ excN, PySem.W.kitOne K (.ref (He.ga K c)) (.ref (He.ga K d)) = some (decide (c = d)) := fun c hc => by
    have := (h' c hc).2.1
    unfold exC2 at this
    simp only [Bool.and_eq_true, decide_eq_true_eq, List.all_eq_true] at this
    exact this
  exact ⟨g, t, fun c hc => (h2 c hc).2.1, fun c hc => exC1_ok (h' c hc).1, fun c hc d hd => (h2 c hc).2.2 d hd, fun c hc => (h2 c hc).1, fun c hc => ⟨_, g c hc, He.exc_ok (h' c hc).2.2⟩⟩
theorem exZE_z {K : PySem.W.Frag} (h : exZE K = true) : exZ K = true := (Bool.and_eq_true_iff.mp h).1
theorem exZE_e {K : PySem.W.Frag} (h : exZE K = true) : exE K = true := (Bool.and_eq_true_iff.mp h).2
end Sx

namespace Sx
open PySem PySem.Spec PyProof.Rows L2
/-! ### a def with its exceptions does what the def without them does -/
def LeR {α : Type} (a b : Res α) : Prop := a = .bad ∨ a = b
def LeO (a b : Out) : Prop := a = .bad ∨ a = b
def LeF {α β : Type} (f g : α → Res β) : Prop := ∀ x, LeR (f x) (g x)
def Le2 {α β γ : Type} (f g : α → β → Res γ) : Prop := ∀ x y, LeR (f x y) (g x y)
def LeS (f g : SS) : Prop := ∀ ρ W, LeO (f ρ W) (g ρ W)
theorem LeR.refl {α : Type} (a : Res α) : LeR a a := .inr rfl
theorem Le2.refl {α β γ : Type} (f : α → β → Res γ) : Le2 f f := fun _ _ => .inr rfl
theorem LeS.refl (f : SS) : LeS f f := fun _ _ => .inr rfl
theorem LeR.ok {α : Type} {a b : Res α} {r : α} (h : LeR a b) (e : a = .ok r) : b = .ok r := by
  rcases h with h | h
  · rw [h] at e; cases e
  · rw [← h]; exact e
theorem LeF.ok {α β : Type} {f g : α → Res β} {x : α} {r : β} (h : LeF f g) (e : f x = .ok r) : g x = .ok r := (h x).ok e
theorem LeR.bind {α β : Type} {a b : Res α} {f g : α → Res β} (h : LeR a b) (k : ∀ x, LeR (f x) (g x)) : LeR (a.bind f) (b.bind g) := by
  rcases h with rfl | rfl
  · exact .inl rfl
  · cases a with
    | ok x => exact k x
    | exc c => exact .inr rfl
    | bad => exact .inl rfl
theorem LeO.rOut {α : Type} {a b : Res (α × Tw)} {f g : α → Tw → Out} (h : LeR a b) (k : ∀ x W, LeO (f x W) (g x W)) : LeO (rOut a f) (rOut b g) := by
  rcases h with rfl | rfl
  · exact .inl rfl
  · cases a with
    | ok p => exact k p.1 p.2
    | exc c => exact .inr rfl
    | bad => exact .inl rfl
theorem le_never {s : SS} : LeS sNever s := fun _ _ => .inl rfl
theorem le_seq {a a' b b' : SS} (h : LeS a a') (k : LeS b b') : LeS (sSeq a b) (sSeq a' b') := fun ρ W => by
  unfold sSeq
  rcases h ρ W with e | e
  · rw [e]; exact .inl rfl
  · rw [← e]
    cases a ρ W with
    | nx ρ1 W1 => exact k ρ1 W1
    | _ => exact .inr rfl
theorem le_if {c c' : SB} {a a' b b' : SS} (hc : Le2 c c') (h : LeS a a') (k : LeS b b') : LeS (sIf c a b) (sIf c' a' b') := fun ρ W => LeO.rOut (hc ρ W) fun x W1 => by
  cases x
  · exact k ρ W1
  · exact h ρ W1
theorem le_fL {g : SG} {b b' : SS} (h : LeS b b') : ∀ (ds : List Dt) (ρ : Sl) (W : Tw), LeO (fL g b ds ρ W) (fL g b' ds ρ W)
  | [], ρ, W => .inr rfl
  | d :: ds, ρ, W => by
    unfold fL
    cases g d ρ with
    | none => exact .inl rfl
    | some ρ1 =>
      rcases h ρ1 W with e | e
      · simp only [e]; exact .inl rfl
      · simp only [← e]
        cases b ρ1 W with
        | nx ρ2 W2 => exact le_fL h ds ρ2 W2
        | _ => exact .inr rfl
theorem le_for {it it' : SA} {g : SG} {b b' : SS} (hi : Le2 it it') (h : LeS b b') : LeS (sFor it g b) (sFor it' g b') := fun ρ W => LeO.rOut (hi ρ W) fun ds W1 => le_fL h ds ρ W1
theorem le_expr {e e' : SE} (h : Le2 e e') : LeS (sExpr e) (sExpr e') := fun ρ W => LeO.rOut (h ρ W) fun _ _ => .inr rfl
theorem le_ret {e e' : SE} (h : Le2 e e') : LeS (sRet e) (sRet e') := fun ρ W => LeO.rOut (h ρ W) fun _ _ => .inr rfl
theorem le_asg {i : Nat} {e e' : SE} (h : Le2 e e') : LeS (sAsg i e) (sAsg i e') := fun ρ W => LeO.rOut (h ρ W) fun _ _ => .inr rfl
theorem le_asgG {g : SG} {e e' : SE} (h : Le2 e e') : LeS (sAsgG g e) (sAsgG g e') := fun ρ W => LeO.rOut (h ρ W) fun _ _ => .inr rfl
theorem le_own {i : Nat} {e e' : SA} (h : Le2 e e') : LeS (sOwn i e) (sOwn i e') := fun ρ W => LeO.rOut (h ρ W) fun _ _ => .inr rfl
theorem le_app {i : Nat} {e e' : SE} (h : Le2 e e') : LeS (sApp i e) (sApp i e') := fun ρ W => by
  unfold sApp
  split
  · exact LeO.rOut (h ρ W) fun _ _ => .inr rfl
  · exact .inr rfl
theorem le_tput {i : Nat} {k e e' : SE} (h : Le2 e e') : LeS (sTput i k e) (sTput i k e') := fun ρ W => by
  unfold sTput
  split
  · exact LeO.rOut (h ρ W) fun _ _ => .inr rfl
  · exact .inr rfl
theorem le_fz {f f' : SS} {z : Sl → Sl} (h : LeS f f') : LeS (fun ρ W => f (z ρ) W) (fun ρ W => f' (z ρ) W) := fun ρ W => h (z ρ) W
theorem le_tup {a a' : SA} (h : Le2 a a') : Le2 (eTup a) (eTup a') := fun ρ W => (h ρ W).bind fun _ => .inr rfl
theorem le_frz {a a' : SA} (h : Le2 a a') : Le2 (eFrz a) (eFrz a') := fun ρ W => (h ρ W).bind fun _ => .inr rfl
theorem le_lst {a a' : SA} (h : Le2 a a') : Le2 (lLst a) (lLst a') := fun ρ W => (h ρ W).bind fun _ => .inr rfl
theorem le_cons {e e' : SE} {a a' : SA} (h : Le2 e e') (k : Le2 a a') : Le2 (aCons e a) (aCons e' a') := fun ρ W => (h ρ W).bind fun p => (k ρ p.2).bind fun _ => .inr rfl
theorem le_eif {c : SB} {a a' b b' : SE} (h : Le2 a a') (k : Le2 b b') : Le2 (eIf c a b) (eIf c a' b') := fun ρ W => (LeR.refl (c ρ W)).bind fun p => by
  split
  · exact h ρ p.2
  · exact k ρ p.2
theorem le_seqI {a a' : SE} (h : Le2 a a') : Le2 (iSeq a) (iSeq a') := fun ρ W => (h ρ W).bind fun _ => .inr rfl
theorem le_cb {g : List Dt → Option Dt} {a a' : SA} (h : Le2 a a') : Le2 (eCB g a) (eCB g a') := fun ρ W => (h ρ W).bind fun _ => .inr rfl
theorem le_bin {g : Dt → Dt → Option Dt} {a a' b b' : SE} (h : Le2 a a') (k : Le2 b b') : Le2 (eBin g a b) (eBin g a' b') := fun ρ W => (h ρ W).bind fun p => (k ρ p.2).bind fun _ => .inr rfl
theorem le_call {n : Nat} {F F' : List Dt → Res Dt} {a a' : SA} (h : LeF F F') (k : Le2 a a') : Le2 (eCall n F a) (eCallX n F' a') := fun ρ W => (k ρ W).bind fun p => by
  split
  · rcases h p.1 with e | e
    · rw [e]; exact .inl rfl
    · rw [← e]
      cases F p.1 with
      | ok r => exact .inr rfl
      | exc c => exact .inl rfl
      | bad => exact .inl rfl
  · exact .inr rfl
theorem le_call0 {n : Nat} {F : List Dt → Res Dt} {a a' : SA} (k : Le2 a a') : Le2 (eCall n F a) (eCall n F a') := fun ρ W => (k ρ W).bind fun p => .inr rfl
theorem le_runP {m : Nat} {B B' : SS} (h : LeS B B') : LeF (runP m B) (runP m B') := fun ds => by
  unfold runP
  rcases h (start0 m ds) none with e | e
  · rw [e]; exact .inl rfl
  · rw [← e]; exact .inr rfl
end Sx

namespace Sx
open PySem PySem.Spec PyProof.Rows L2
/-! ### texts -/
def chrs (z : Str) : List Dt := z.cps.toList.map fun c => PyData.str ⟨#[c]⟩
def splitD : Dt → Dt → Option (List Dt)
  | .str z, .str y => if y.length ≠ 0 ∧ z.length ≤ 90000 then some ((Txt.split z y).map PyData.str) else none
  | _, _ => none
def joinD : Dt → Dt → Option Dt
  | .str z, .list ds => (strsOf ds).bind fun ys => if (ys.map (·.length)).sum + ys.length * z.length ≤ 90000 then some (.str (Txt.join z ys)) else none
  | _, _ => none
/-- the scope of the comprehension that is a call's only argument -/
def compSc (st : Stmt) : Scope := match defBody st with
  | [.Return (some (.Call _ [.ListComp _ _ sc _] _ _)) _] => sc
  | _ => defScope st
def isStr : Dt → Bool
  | .str _ => true
  | _ => false
/-- o.m(e), o a text -/
def eTm (g : Dt → Dt → Option Dt) (a b : SE) : SE := fun ρ W => (a ρ W).bind fun p => if isStr p.1 = true then (b ρ p.2).bind fun q => ofO (g p.1 q.1) q.2 else .bad
def lTm (g : Dt → Dt → Option (List Dt)) (a b : SE) : SA := fun ρ W => (a ρ W).bind fun p => if isStr p.1 = true then (b ρ p.2).bind fun q => ofO (g p.1 q.1) q.2 else .bad
def iChr (e : SE) : SA := fun ρ W => (e ρ W).bind fun p => match p.1 with
  | .str z => .ok (chrs z, p.2)
  | _ => .bad
def intTD : List Dt → Option Dt
  | [.str z] => if z.length ≤ 600 then (PySem.intText? z).map PyData.int else none
  | _ => none
/-- one sign in a text -/
def inTD : Dt → Dt → Option Dt
  | .str c, .str z => match c.cps.toList with
    | [k] => some (.bool (decide (k ∈ z.cps.toList)))
    | _ => none
  | _, _ => none
/-- a part of an f-string -/
def fmtD : Dt → Option Str
  | .str z => if z.length ≤ 90000 then some z else none
  | .int i => if i.natAbs.log2 < 1920 then some (toString i) else none
  | _ => none
abbrev SJ := Str → Sl → Tw → Res (Str × Tw)
def jNil : SJ := fun acc _ W => .ok (acc, W)
def jE (e : SE) (j : SJ) : SJ := fun acc ρ W => (e ρ W).bind fun p => match fmtD p.1 with
  | some z => if acc.length + z.length ≤ 90000 then j (acc ++ z) ρ p.2 else .bad
  | none => .bad
def eFst (j : SJ) : SE := fun ρ W => (j Str.empty ρ W).bind fun p => .ok (.str p.1, p.2)
section
variable {K : PySem.W.Frag} {F H : Hp}
theorem dq_strs : ∀ (ys : List Str), DqAll K F (ys.map V.str) (ys.map PyData.str)
  | [] => .nil
  | y :: ys => .cons (.str y) (dq_strs ys)
theorem wd_str {z : Str} : WalkD Dq K F (Its z) (chrs z) := by
  unfold WalkD
  have e : (chrs z).length = z.cps.size := by simp [chrs]
  rw [e]
  refine ⟨fun i H hi _ => hi, fun H _ => Nat.le_refl _, fun i H v H' hi _ ⟨e1, c, hc, hv⟩ F2' s1' s2' => ?_⟩
  subst e1 hv
  refine ⟨F2', .str ⟨#[c]⟩, ?_, .refl s2', .str _⟩
  unfold chrs
  rw [List.getElem?_map, Array.getElem?_toList, hc]; rfl
end
theorem len_sz {z : Str} {n : Nat} (h : z.length ≤ n) (k : n ≤ 100000) : z.length ≤ sizeLine := Nat.le_trans h (Nat.le_trans k (by decide))
section
variable {X : Cx} {XE : Str → Hp → Prop} {e a b o : Expr} {es : List Expr} {pos p apos : Pos} {fa fb : SE} {ga : SA} {tg : Expr}
theorem l_split (ho : PE X o (tE X.K XE fa)) (he : PE X e (tE X.K XE fb)) (hs : starEach [e] X.env = [(false, eval e X.env)] := by rfl) (hbase : attributeBase o "split" X.env (eval o X.env) = eval o X.env := by rfl) (hline : (apos.endLine == pos.line) = true := by rfl) :
    PE X (.Call (.Attribute o "split" apos) [e] [] pos) (tL X.K XE (lTm splitD fa fb)) := by
  refine (pe_split ho he hs hbase hline).weak fun σ H Q ⟨G, ρ, W, F, R, q⟩ => ?_
  refine ⟨G, ρ, W, F, R, q.of_bind.mono fun d W1 q v F1 H1 s1 R1 hv => ?_⟩
  obtain ⟨hi, q'⟩ := Pg.of_ite q
  clear q
  have q := q'
  clear q'
  cases d <;> try (cases hi; done)
  rename_i z
  cases hv
  refine ⟨⟨z, rfl⟩, G, ρ, W1, F1, R1, q.of_bind.mono fun d W2 q v F2 H2 s2 R2 hv => ?_⟩
  obtain ⟨zs, hz, q'⟩ := q.of_ofO
  clear q
  have q := q'
  clear q'
  cases d <;> simp only [splitD] at hz <;> try (cases hz; done)
  rename_i y
  cases hv
  split at hz
  · rename_i hc
    cases hz
    refine ⟨z, y, rfl, rfl, by simp only [beq_eq_false_iff_ne]; exact hc.1, Nat.le_trans (Nat.add_le_add_right hc.2 2) (by decide), fun p hp => ?_⟩
    have g : Gr0 X.K F2 H2 F2 (upd H2 p (.lst ((Txt.split z y).map V.str))) := .newH R2.fh hp
    exact q p _ F2 _ (s1.trans s2) (R2.grow g) (R2.fresh hp) upd_same (R2.fh.free hp) (dq_strs _)
  · cases hz
theorem d_join (ho : PE X o (tE X.K XE fa)) (he : PE X e (tE X.K XE fb)) (hs : starEach [e] X.env = [(false, eval e X.env)] := by rfl) (hbase : attributeBase o "join" X.env (eval o X.env) = eval o X.env := by rfl) (hline : (apos.endLine == pos.line) = true := by rfl) :
    PE X (.Call (.Attribute o "join" apos) [e] [] pos) (tE X.K XE (eTm joinD fa fb)) := by
  refine (pe_join ho he hs hbase hline).weak fun σ H Q ⟨G, ρ, W, F, R, q⟩ => ?_
  refine ⟨G, ρ, W, F, R, q.of_bind.mono fun d W1 q v F1 H1 s1 R1 hv => ?_⟩
  obtain ⟨hi, q'⟩ := Pg.of_ite q
  clear q
  have q := q'
  clear q'
  cases d <;> try (cases hi; done)
  rename_i z
  cases hv
  refine ⟨⟨z, rfl⟩, G, ρ, W1, F1, R1, q.of_bind.mono fun d W2 q v F2 H2 s2 R2 hv => ?_⟩
  obtain ⟨x, hz, q'⟩ := q.of_ofO
  clear q
  have q := q'
  clear q'
  cases d <;> simp only [joinD] at hz <;> try (cases hz; done)
  rename_i ds
  cases hy : strsOf ds with
  | none => rw [hy] at hz; cases hz
  | some ys =>
    rw [hy, Option.bind_some] at hz
    split at hz
    · rename_i hc
      cases hz
      cases hv with
      | lst h1 h2 =>
        obtain rfl := strs_vals h2 hy
        exact ⟨z, _, ys, rfl, rfl, .inl (R2.fh.seq h1), Nat.le_trans hc (by decide), q _ F2 H2 (s1.trans s2) R2 (.str _)⟩
    · cases hz
theorem i_chr (he : PE X e (tE X.K XE fa)) : PI X tg e (tI Dq X.K XE (iChr fa)) := by
  refine (pi_str he).weak fun σ H R ⟨G, ρ, W, F, Rl, q⟩ => ⟨G, ρ, W, F, Rl, q.of_bind.mono fun d W1 q v F1 H1 s1 R1 hv => ?_⟩
  cases d with
  | str z =>
    cases hv
    exact ⟨z, rfl, q _ F1 H1 s1 R1 wd_str⟩
  | _ => exact q.elim
theorem ct_intT : CallR X (.type "int") (RDC X.K intTD) := by
  intro pins s σ H xs us Q I r h
  obtain ⟨F, ds, z, sm, hx, hg, q⟩ := h
  rcases ds with _ | ⟨d, _ | ⟨e, ds⟩⟩
  · cases hg
  · obtain ⟨v, rfl, hv⟩ := hx.one
    cases d <;> simp only [intTD] at hg <;> try (cases hg; done)
    rename_i y
    split at hg
    · rename_i hl
      cases hn : PySem.intText? y with
      | none => rw [hn] at hg; cases hg
      | some n =>
        rw [hn] at hg
        cases hg
        obtain rfl := hv.str
        exact call_int_str pins s σ H _ us Q I r ⟨y, n, rfl, hn, by omega, end_int sm rfl q⟩
    · cases hg
  · cases d <;> cases hg
theorem op_inTD : OpR X (compareOp .In) (RD2 X.K inTD) := by
  intro pins s σ H x y v u Q I rx ry h
  obtain ⟨F, d, e, z, sm, hx, hy, hg, q⟩ := h
  cases d <;> simp only [inTD] at hg <;> try (cases hg; done)
  cases e <;> simp only at hg <;> try (cases hg; done)
  rename_i c t
  split at hg
  · rename_i k hk
    cases hg
    obtain rfl := hx.str
    obtain rfl := hy.str
    have ec : c = ⟨#[k]⟩ := by
      obtain ⟨cs⟩ := c
      congr 1
      exact Array.toList_inj.mp hk
    subst ec
    exact op_in_sign pins s σ H _ _ v u Q I rx ry ⟨k, t, rfl, rfl, end_bl sm rfl q⟩
  · cases hg
/-! f-strings -/
def tJ (K : PySem.W.Frag) (XE : Str → Hp → Prop) (j : SJ) (acc : Str) : L2.St → Hp → (Str → Hp → Prop) → Prop := fun σ H Q => ∃ G ρ W F, Rel K G ρ W σ F H ∧
  Pg XE G (j acc ρ W) fun z W' => ∀ F' H', Same F F' → Rel K G ρ W' σ F' H' → Q z H'
/-- the parts -/
def PJs (X : Cx) (XE : Str → Hp → Prop) (es : List Expr) (j : SJ) : Prop := ∃ ts, PJ X es ts ∧ ∀ acc σ H Q, tJ X.K XE j acc σ H Q → tJs ts acc σ H Q
theorem pj_nil : PJs X XE [] jNil := ⟨[], .nil, fun acc σ H Q ⟨G, ρ, W, F, R, q⟩ => q F H (.refl _) R⟩
theorem pj_fmt (he : PE X e (tE X.K XE fa)) {j : SJ} (hj : PJs X XE es j) : PJs X XE (.FormattedValue e (-1) none pos :: es) (jE fa j) := by
  obtain ⟨ts, h1, h2⟩ := hj
  refine ⟨_, .cons (pe_fmt he) h1, fun acc σ H Q ⟨G, ρ, W, F, R, q⟩ => ?_⟩
  refine ⟨G, ρ, W, F, R, q.of_bind.mono fun d W1 q v F1 H1 s1 R1 hv => ?_⟩
  cases hf : fmtD d with
  | none => simp only [hf] at q; exact q.elim
  | some z =>
    simp only [hf] at q
    obtain ⟨hl, q⟩ := Pg.of_ite q
    have fin : ∃ y : Str, V.str z = .str y ∧ (acc ++ y).length ≤ sizeLine ∧ tJs ts (acc ++ y) σ H1 Q := ⟨z, rfl, len_sz (by rw [Str.length_append]; exact hl) (by decide), h2 _ σ H1 Q ⟨G, ρ, W1, F1, R1, q.mono fun k W2 q F2 H2 s2 R2 => q F2 H2 (s1.trans s2) R2⟩⟩
    cases d <;> simp only [fmtD] at hf <;> try (cases hf; done)
    · rename_i i
      split at hf
      · cases hf
        cases hv
        exact .inr ⟨i, rfl, by assumption, fin⟩
      · cases hf
    · rename_i y
      split at hf
      · cases hf
        cases hv
        exact .inl ⟨_, rfl, len_sz (by assumption) (by decide), fin⟩
      · cases hf
theorem pj_con {y : Str} {k : Nat} {j : SJ} (hj : PJs X XE es j) : PJs X XE (.Constant (.str y) k pos :: es) (jE (eC (.str y)) j) := by
  obtain ⟨ts, h1, h2⟩ := hj
  refine ⟨_, .cons pe_str h1, fun acc σ H Q ⟨G, ρ, W, F, R, q⟩ => ?_⟩
  have q : Pg XE G (match fmtD (.str y) with | some z => if acc.length + z.length ≤ 90000 then j (acc ++ z) ρ W else .bad | none => .bad) fun z W' => ∀ F' H', Same F F' → Rel X.K G ρ W' σ F' H' → Q z H' := q
  cases hf : fmtD (.str y) with
  | none => simp only [hf] at q; exact q.elim
  | some z =>
    simp only [hf] at q
    obtain ⟨hl, q⟩ := Pg.of_ite q
    simp only [fmtD] at hf
    split at hf
    · cases hf
      exact ⟨_, rfl, len_sz (by rw [Str.length_append]; exact hl) (by decide), h2 _ σ H Q ⟨G, ρ, W, F, R, q⟩⟩
    · cases hf
theorem d_fst {v1 v2 : Expr} {rest : List Expr} {j : SJ} (hj : PJs X XE (v1 :: v2 :: rest) j) : PE X (.JoinedStr (v1 :: v2 :: rest) pos) (tE X.K XE (eFst j)) := by
  obtain ⟨ts, h1, h2⟩ := hj
  refine (pe_joined h1).weak fun σ H Q ⟨G, ρ, W, F, R, q⟩ => ?_
  exact h2 _ σ H _ ⟨G, ρ, W, F, R, q.of_bind.mono fun z W1 q F1 H1 s1 R1 => q _ F1 H1 s1 R1 (.str z)⟩
end
end Sx

namespace Sx
open PySem PySem.Spec PyProof.Rows L2
/-! ### sessions: an instance with a ladder and two lists -/
structure SesC (K : PySem.W.Frag) : Prop where
  cl : Cls K (SC K)
  nL : NoAttr K (SC K) "ladder"
  nD : NoAttr K (SC K) "done"
  nU : NoAttr K (SC K) "undone"
theorem ne_dl : (("done" : Str) == "ladder") = false := by decide +kernel
theorem ne_ul : (("undone" : Str) == "ladder") = false := by decide +kernel
theorem ne_ud : (("undone" : Str) == "done") = false := by decide +kernel
theorem str_bt {x : Str} : (x == x) = true := beq_iff_eq.mpr rfl
theorem str_bf {x y : Str} (h : (x == y) = false) : ¬ y = x := fun e => by rw [e, str_bt] at h; cases h
section
variable {vL : V} {p q : Addr}
theorem sesF_L : (sesF vL p q).lookup ("ladder" : Str) = some vL := by
  unfold sesF; simp only [List.lookup, str_bt]
theorem sesF_D : (sesF vL p q).lookup ("done" : Str) = some (.ref p) := by
  unfold sesF; simp only [List.lookup, str_bt, ne_dl]
theorem sesF_U : (sesF vL p q).lookup ("undone" : Str) = some (.ref q) := by
  unfold sesF; simp only [List.lookup, str_bt, ne_ul, ne_ud]
theorem sesF_no {m : Str} (h1 : (m == "ladder") = false) (h2 : (m == "done") = false) (h3 : (m == "undone") = false) : (sesF vL p q).lookup m = none := by
  unfold sesF; simp only [List.lookup, h1, h2, h3]
theorem sesF_putU {q' : Addr} : putF "undone" (.ref q') (sesF vL p q) = sesF vL p q' := by
  unfold sesF
  simp only [putF]
  rw [if_neg (str_bf ne_ul), if_neg (str_bf ne_ud), if_pos trivial]
theorem sesF_new : putF "undone" (.ref q) (putF "done" (.ref p) (putF "ladder" vL [])) = sesF vL p q := by
  unfold sesF
  simp only [putF]
  rw [if_neg (str_bf ne_dl)]
  show (if ("ladder" : Str) = "undone" then _ else _ :: (if ("done" : Str) = "undone" then _ else _)) = _
  rw [if_neg (str_bf ne_ul), if_neg (str_bf ne_ud)]
  rfl
end
/-- the heap without the session -/
def delS (H : Hp) (a p q : Addr) : Hp := fun x => if x = a ∨ x = p ∨ x = q then none else H x
section
variable {K : PySem.W.Frag} {G : Gh} {ρ : Sl} {W : Tw} {σ : L2.St} {F H F' H' : Hp} {a p q p' q' x : Addr} {L : Dt} {D U D' U' : List Dt} {o : HO}
theorem delS_in (h : x = a ∨ x = p ∨ x = q) : delS H a p q x = none := if_pos h
theorem delS_out (h : ¬ (x = a ∨ x = p ∨ x = q)) : delS H a p q x = H x := if_neg h
theorem delS_some (h : delS H a p q x = some o) : ¬ (x = a ∨ x = p ∨ x = q) ∧ H x = some o := by
  by_cases hx : x = a ∨ x = p ∨ x = q
  · rw [delS_in hx] at h; cases h
  · rw [delS_out hx] at h; exact ⟨hx, h⟩
theorem delS_none (h : delS H a p q x = none) : (x = a ∨ x = p ∨ x = q) ∨ H x = none := by
  by_cases hx : x = a ∨ x = p ∨ x = q
  · exact .inl hx
  · rw [delS_out hx] at h; exact .inr h
theorem SesAt.pts (s : SesAt K F H a p q L D U) : ∀ x, x = a ∨ x = p ∨ x = q → ∃ o, H x = some o ∧ NT o := fun x hx => by
  obtain ⟨dx, vL, vD, vU, h1, h2, h3, h4, h5, h6, h7⟩ := s
  rcases hx with rfl | rfl | rfl
  · exact ⟨_, h1, nt_ins⟩
  · exact ⟨_, h2, nt_lst⟩
  · exact ⟨_, h3, nt_lst⟩
theorem SesAt.nap (s : SesAt K F H a p q L D U) : a ≠ p := by
  obtain ⟨dx, vL, vD, vU, h1, h2, h3, h4, h5, h6, h7⟩ := s
  exact ne_of h1 h2 (by intro z; cases z)
theorem SesAt.naq (s : SesAt K F H a p q L D U) : a ≠ q := by
  obtain ⟨dx, vL, vD, vU, h1, h2, h3, h4, h5, h6, h7⟩ := s
  exact ne_of h1 h3 (by intro z; cases z)
theorem SesAt.grow (s : SesAt K F H a p q L D U) (g : Gr0 K F H F' H') : SesAt K F' H' a p q L D U := by
  obtain ⟨dx, vL, vD, vU, h1, h2, h3, h4, h5, h6, h7⟩ := s
  exact ⟨dx, vL, vD, vU, g.kp _ _ h1 (fun z => z) nt_ins, g.kp _ _ h2 (fun z => z) nt_lst, g.kp _ _ h3 (fun z => z) nt_lst, h4.mono g.ff, h5.mono g.ff, h6.mono g.ff, h7⟩
theorem TabsF.delS {T : List (Addr × Str)} (t : TabsF T F H) (s : ∀ x, x = a ∨ x = p ∨ x = q → ∃ o, H x = some o ∧ NT o) : TabsF T F (Sx.delS H a p q) := fun y hy => (t y hy).grow (.refl _) (fun _ _ n => n) fun ps e => by
  rw [delS_out]
  · exact e
  · intro z
    obtain ⟨o, h1, h2⟩ := s _ z
    rw [e] at h1
    exact h2 ps (Option.some.inj h1).symm
/-- a thing apart from the session that grows -/
theorem Gr0.frame (g : Gr0 K F H F' H') (tb : TabsF (tabsOf K) F H) : Gr0 K F (delS H a p q) F' H' where
  ff := g.ff
  fh := g.fh
  nw := fun x e => by
    rcases g.nw x e with z | z
    · exact .inl z
    · refine .inr ?_
      by_cases hx : x = a ∨ x = p ∨ x = q
      · exact delS_in hx
      · rw [delS_out hx]; exact z
  kp := fun x o e n m => g.kp x o (delS_some e).2 n m
  th := fun x e => g.th x fun z => e (by
    by_cases hx : x = a ∨ x = p ∨ x = q
    · exact delS_in hx
    · rw [delS_out hx]; exact z)
  tb := fun _ => g.tb tb
theorem Rel.startS {vs : List V} {ds : List Dt} {k : Nat} (sm : Same F H) (tb : TabsF (tabsOf K) F H) (s : SesAt K F H a p q L D U) (n : F a = none ∧ F p = none ∧ F q = none) (h : DqAll K F vs ds) :
    Rel K ⟨K, none, F, delS H a p q, [], none, fun i => if i = 0 then [a, p, q] else []⟩ (some (.se L D U) :: (ds.map (fun x => some (SV.d x)) ++ List.replicate k none)) none (some (.ref a) :: (vs.map some ++ List.replicate k none)) F H :=
  ⟨⟨.refl _, sm, fun _ e => .inl e, fun x o e _ _ => (delS_some e).2, fun x e z => e (by
      show delS H a p q x = none
      by_cases hx : x = a ∨ x = p ∨ x = q
      · exact delS_in hx
      · rw [delS_out hx]; exact z), fun _ => tb⟩, by simp [h.length], fun t e => (by cases e), fun t e => (by cases e), trivial, fun i sv e => (by
    match i, e with
    | 0, e => cases e; exact ⟨.ref a, rfl, a, p, q, rfl, rfl, s⟩
    | i + 1, e => exact dq_slots (fp := fun j => if j + 1 = 0 then [a, p, q] else []) (i := i) h e), fun i j x hx hy => (by
    simp only at hx hy
    by_cases hi : i = 0
    · by_cases hj : j = 0
      · rw [hi, hj]
      · rw [if_neg hj] at hy; cases hy
    · rw [if_neg hi] at hx; cases hx), fun i x hx => (by
    simp only at hx
    by_cases hi : i = 0
    · rw [if_pos hi] at hx
      simp only [List.mem_cons, List.mem_nil_iff, or_false] at hx
      obtain ⟨o, h1, _⟩ := s.pts x hx
      refine ⟨?_, by rw [h1]; exact (fun z => nomatch z), delS_in hx, fun z => nomatch z⟩
      rcases hx with rfl | rfl | rfl
      · exact n.1
      · exact n.2.1
      · exact n.2.2
    · rw [if_neg hi] at hx; cases hx), fun e he => (by cases he), fun e he => (by cases he), tb, rfl⟩
theorem Rel.seCall {L' : Dt} {i : Nat} (R : Rel K G ρ W σ F H) (hs : ρ[i]? = some (some (.se L D U))) (hσ : σ[i]? = some (some (.ref a))) (hf : G.fp i = [a, p, q]) (s0 : SesAt K F H a p q L D U) (g : Gr0 K F (delS H a p q) F' H') (s : SesAt K F' H' a p' q' L' D' U')
    (n : F' a = none ∧ F' p' = none ∧ F' q' = none) (np : delS H a p q p' = none) (nq : delS H a p q q' = none) : Rel K (G.ownL i [a, p', q']) (ρ.set i (some (.se L' D' U'))) W σ F' H' := by
  have hi : i < ρ.length := (List.getElem?_eq_some_iff.mp hs).1
  have mem : ∀ x, x = a ∨ x = p ∨ x = q → x ∈ G.fp i := fun x hx => by rw [hf]; simpa using hx
  have frI : ∀ x, x = a ∨ x = p ∨ x = q → F x = none ∧ H x ≠ none ∧ G.H0 x = none ∧ G.T ≠ some x := fun x hx => R.fr i x (mem x hx)
  have out : ∀ j x, j ≠ i → x ∈ G.fp j → ¬ (x = a ∨ x = p ∨ x = q) := fun j x hj hx z => hj (R.dj j i x hx (mem x z))
  have noF : ∀ x, F x = none → H x ≠ none → ¬ (x = a ∨ x = p ∨ x = q) → F' x = none := fun x h1 h2 h3 => Classical.byContradiction fun z => by
    rcases g.nw x z with w | w
    · exact w h1
    · rw [delS_out h3] at w; exact h2 w
  have keepH : ∀ x o, H x = some o → ¬ (x = a ∨ x = p ∨ x = q) → NT o → H' x = some o := fun x o h1 h2 h3 => g.kp x o (by rw [delS_out h2]; exact h1) (fun z => z) h3
  have new : ∀ x, x = a ∨ x = p' ∨ x = q' → (x = a ∨ x = p ∨ x = q) ∨ H x = none := fun x hx => by
    rcases hx with z | z | z
    · exact .inl (.inl z)
    · rw [z]; exact delS_none np
    · rw [z]; exact delS_none nq
  have hfp : ∀ j x, x ∈ (G.ownL i [a, p', q']).fp j → (j = i ∧ (x = a ∨ x = p' ∨ x = q')) ∨ (j ≠ i ∧ x ∈ G.fp j) := fun j x hx => by
    unfold Gh.ownL at hx
    simp only at hx
    by_cases hj : j = i
    · rw [if_pos hj] at hx; exact .inl ⟨hj, by simpa using hx⟩
    · rw [if_neg hj] at hx; exact .inr ⟨hj, hx⟩
  have h0 : ∀ x, H x = none → G.H0 x = none := fun x hx => Classical.byContradiction fun z => R.gr.th x z hx
  have n0 : ∀ x, G.H0 x ≠ none → ¬ (x = a ∨ x = p ∨ x = q) := fun x hx z => hx (frI x z).2.2.1
  refine ⟨⟨R.gr.ff.trans g.ff, g.fh, fun x e => ?_, fun x o e m nt => ?_, fun x e => ?_, fun t => g.tb ((R.gr.tb t).delS s0.pts)⟩, by rw [List.length_set]; exact R.len, R.t0, R.t1, ?_, fun j sv e => ?_, fun j k x hx hy => ?_, fun j x hx => ?_, fun e he => ?_, R.xt, g.tb (R.tb.delS s0.pts), R.kk⟩
  · rcases g.nw x e with z | z
    · exact R.gr.nw x z
    · rcases delS_none z with w | w
      · exact .inr (frI x w).2.2.1
      · exact .inr (h0 x w)
  · exact keepH x o (R.gr.kp x o e m nt) (n0 x (by show G.H0 x ≠ none; rw [show G.H0 x = some o from e]; exact fun z => nomatch z)) nt
  · refine g.th x ?_
    rw [delS_out (n0 x e)]
    exact R.gr.th x e
  · have t := R.tw
    revert t
    show TwOk K F H G.T W → TwOk K F' H' G.T W
    cases hT : G.T <;> cases W <;> intro t
    · trivial
    · exact t
    · exact t
    · rename_i ta ws
      obtain ⟨tv, h1, h2, h3⟩ := t
      have hn : ¬ (ta = a ∨ ta = p ∨ ta = q) := fun z => (frI ta z).2.2.2 hT
      exact ⟨tv, keepH _ _ h1 hn nt_lst, noF _ h2 (by rw [h1]; exact fun z => nomatch z) hn, h3.mono g.ff⟩
  · by_cases hj : i = j
    · subst hj
      rw [List.getElem?_set_self hi] at e
      cases e
      refine ⟨.ref a, hσ, a, p', q', rfl, ?_, s⟩
      unfold Gh.ownL
      simp
    · rw [List.getElem?_set_ne hj] at e
      obtain ⟨v, h1, h2⟩ := R.sl j sv e
      refine ⟨v, h1, ?_⟩
      unfold Gh.ownL
      simp only [if_neg (Ne.symm hj)]
      exact h2.keep g.ff fun x o ho nt hx => keepH x o ho (out j x (Ne.symm hj) hx) nt
  · rcases hfp j x hx with ⟨h1, h2⟩ | ⟨h1, h2⟩ <;> rcases hfp k x hy with ⟨h3, h4⟩ | ⟨h3, h4⟩
    · rw [h1, h3]
    · rcases new x h2 with z | z
      · exact absurd z (out k x h3 h4)
      · exact absurd z (R.fr k x h4).2.1
    · rcases new x h4 with z | z
      · exact absurd z (out j x h1 h2)
      · exact absurd z (R.fr j x h2).2.1
    · exact R.dj j k x h2 h4
  · rcases hfp j x hx with ⟨h1, h2⟩ | ⟨h1, h2⟩
    · obtain ⟨o, h3, _⟩ := s.pts x h2
      refine ⟨?_, by rw [h3]; exact (fun z => nomatch z), ?_, ?_⟩
      · rcases h2 with rfl | rfl | rfl
        · exact n.1
        · exact n.2.1
        · exact n.2.2
      · rcases new x h2 with z | z
        · exact (frI x z).2.2.1
        · exact h0 x z
      · rcases new x h2 with z | z
        · exact (frI x z).2.2.2
        · exact (R.fresh z).2.2.1
    · obtain ⟨e1, e2, e3, e4⟩ := R.fr j x h2
      exact ⟨noF x e1 e2 (out j x h1 h2), g.th x (by rw [delS_out (out j x h1 h2)]; exact e2), e3, e4⟩
  · obtain ⟨h1, h2, h3, h4⟩ := R.ex e he
    have hn : ¬ (e.1 = a ∨ e.1 = p ∨ e.1 = q) := fun z => h4 i (mem _ z)
    have hH : H e.1 ≠ none := by rw [h1]; exact fun z => nomatch z
    refine ⟨keepH _ _ h1 hn (R.xt e he), noF _ h2 hH hn, h3, fun j hj => ?_⟩
    rcases hfp j _ hj with ⟨_, z⟩ | ⟨_, z⟩
    · rcases new _ z with w | w
      · exact hn w
      · exact hH w
    · exact h4 j z
theorem Rel.seCallL {L' : Dt} {i : Nat} (R : Rel K G ρ W σ F H) (hs : ρ[i]? = some (some (.se L D U))) (hσ : σ[i]? = some (some (.ref a))) (hf : G.fp i = [a, p, q]) (s0 : SesAt K F H a p q L D U) (g : Gr0 K F (delS H a p q) F' H') (s : SesAt K F' H' a p' q' L' D' U')
    (n : F' a = none ∧ F' p' = none ∧ F' q' = none) (np : delS H a p q p' = none) (nq : delS H a p q q' = none) : Rel K (G.ownL i [a, p', q']) (ρ.set i (some (.se L' D' U'))) W σ F' H' := R.seCall hs hσ hf s0 g s n np nq
theorem Rel.seNew {i : Nat} (R : Rel K G ρ W σ F H) (hi : i < ρ.length) (g : Gr0 K F H F' H') (s : SesAt K F' H' a p q L D U) (n : F' a = none ∧ F' p = none ∧ F' q = none) (na : H a = none) (np : H p = none) (nq : H q = none) :
    Rel K (G.ownL i [a, p, q]) (ρ.set i (some (.se L D U))) W (σ.set i (some (.ref a))) F' H' := by
  refine (R.grow g).takeL hi (fun x hx => ?_) ⟨a, p, q, rfl, rfl, s⟩
  have hx : x = a ∨ x = p ∨ x = q := by simpa using hx
  obtain ⟨o, h1, _⟩ := s.pts x hx
  refine ⟨R.fresh (by rcases hx with rfl | rfl | rfl <;> assumption), by rw [h1]; exact (fun z => nomatch z), ?_⟩
  rcases hx with rfl | rfl | rfl
  · exact n.1
  · exact n.2.1
  · exact n.2.2
/-- slot i's session, as its method sees it at its end -/
theorem Rel.seEnd (R : Rel K G ρ W σ F' H') (b : G.T0 = none) (hF : G.F0 = F) (hH : G.H0 = delS H a p q) (hs : ρ[0]? = some (some (.se L D' U'))) (hσ : σ[0]? = some (some (.ref a))) :
    ∃ p' q', Gr0 K F (delS H a p q) F' H' ∧ SesAt K F' H' a p' q' L D' U' ∧ (F' a = none ∧ F' p' = none ∧ F' q' = none) ∧ delS H a p q p' = none ∧ delS H a p q q' = none := by
  obtain ⟨v, h1, a', p', q', rfl, h3, h4⟩ := R.sl 0 _ hs
  rw [hσ] at h1
  cases h1
  have f : ∀ x ∈ [a, p', q'], F' x = none ∧ delS H a p q x = none := fun x hx => by
    have := R.fr 0 x (by rw [h3]; exact hx)
    exact ⟨this.1, by rw [← hH]; exact this.2.2.1⟩
  refine ⟨p', q', ?_, h4, ⟨(f a (by simp)).1, (f p' (by simp)).1, (f q' (by simp)).1⟩, (f p' (by simp)).2, (f q' (by simp)).2⟩
  have gr := R.gr
  unfold Gh.tm at gr
  rw [b, hF, hH] at gr
  exact gr.mono fun _ z => nomatch z
end
end Sx

namespace Sx
open PySem PySem.Spec PyProof.Rows L2
/-! ### lists that are lent to a call -/
mutual
/-- no list, no dict in it -/
def lfD : Dt → Bool
  | .none => true
  | .bool _ => true
  | .int _ => true
  | .str _ => true
  | .tuple ds => lfAll ds
  | _ => false
def lfAll : List Dt → Bool
  | [] => true
  | d :: ds => lfD d && lfAll ds
end
mutual
theorem dq_lf {K : PySem.W.Frag} {F F' : Hp} {p : Addr} {u : List V} (h0 : F p = some (.lst u)) (e : ∀ a, a ≠ p → F' a = F a) : ∀ (d : Dt) (v : V), lfD d = true → Dq K F v d → Dq K F' v d
  | .none, _, _, h => by cases h; exact .non
  | .bool b, _, _, h => by cases h; exact .bl b
  | .int i, _, _, h => by cases h; exact .int i
  | .str x, _, _, h => by cases h; exact .str x
  | .list ds, _, c, h => by simp [lfD] at c
  | .tuple ds, _, c, h => by
    cases h with
    | tup hs ha hp =>
      rename_i a xs
      refine .tup ?_ (dqAll_lf h0 e ds _ (by simpa [lfD] using c) ha) ?_
      · rcases hs with z | z
        · refine .inl ?_
          rcases z with z | ⟨o, z⟩
          · exact .inl (by rw [e a (fun q => by rw [q, h0] at z; cases z)]; exact z)
          · exact .inr ⟨o, by rw [e a (fun q => by rw [q, h0] at z; cases z)]; exact z⟩
        · exact .inr z
      · rcases hp with ⟨o, z, w⟩ | z
        · exact .inl ⟨o, by rw [e a (fun q => by rw [q, h0] at z; cases z)]; exact z, w⟩
        · exact .inr z
  | .dict kvs, _, c, h => by simp [lfD] at c
theorem dqAll_lf {K : PySem.W.Frag} {F F' : Hp} {p : Addr} {u : List V} (h0 : F p = some (.lst u)) (e : ∀ a, a ≠ p → F' a = F a) : ∀ (ds : List Dt) (vs : List V), lfAll ds = true → DqAll K F vs ds → DqAll K F' vs ds
  | [], _, _, h => by cases h; exact .nil
  | d :: ds, _, c, h => by
    have c : lfD d = true ∧ lfAll ds = true := by simpa [lfAll] using c
    cases h with
    | cons h1 h2 => exact .cons (dq_lf h0 e d _ c.1 h1) (dqAll_lf h0 e ds _ c.2 h2)
end
theorem tabs_delL {T : List (Addr × Str)} {F H : Hp} {p : Addr} {u : List V} (hp : F p = some (.lst u)) (t : TabsF T F H) : TabsF T (delH F p) H := fun x hx => by
  obtain ⟨h0, ps, h1, h2, h3⟩ := t x hx
  refine ⟨by unfold delH; split <;> first | rfl | exact h0, ps, h1, h2, fun pos cv e => ?_⟩
  obtain ⟨c, e1, e2⟩ := h3 pos cv e
  have hne : c ≠ p := fun z => by
    subst z
    rw [hp] at e2
    exact lst_code c x.2 (Option.some.inj e2)
  exact ⟨c, e1, by rw [delH_ne hne]; exact e2⟩
section
variable {K : PySem.W.Frag} {F H F' H' : Hp} {p : Addr} {u : List V}
theorem lend_same (sm : Same F H) (hp : H p = some (.lst u)) : Same (upd F p (.lst u)) H := fun b o e => by
  by_cases hb : b = p
  · subst hb; rw [upd_same] at e; cases e; exact hp
  · rw [upd_ne hb] at e; exact sm b o e
theorem Gr0.unlend (hF : F p = none) (hp : H p = some (.lst u)) (tb : TabsF (tabsOf K) F H) (g : Gr0 K (upd F p (.lst u)) H F' H') : Gr0 K F H (delH F' p) H' where
  ff := fun b o e => by
    have hb : b ≠ p := ne_of_none e hF
    rw [delH_ne hb]
    exact g.ff b o (by rw [upd_ne hb]; exact e)
  fh := fun b o e => by
    by_cases hb : b = p
    · subst hb; unfold delH at e; rw [if_pos rfl] at e; cases e
    · rw [delH_ne hb] at e; exact g.fh b o e
  nw := fun b e => by
    by_cases hb : b = p
    · subst hb; unfold delH at e; rw [if_pos rfl] at e; exact absurd rfl e
    · rw [delH_ne hb] at e
      rcases g.nw b e with z | z
      · rw [upd_ne hb] at z; exact .inl z
      · exact .inr z
  kp := g.kp
  th := g.th
  tb := fun _ => tabs_delL (g.ff _ _ upd_same) (g.tb (tb.ff hF hp nt_lst))
theorem Dq.unlend {v : V} {d : Dt} (g : Gr0 K (upd F p (.lst u)) H F' H') (c : lfD d = true) (h : Dq K F' v d) : Dq K (delH F' p) v d := dq_lf (g.ff _ _ upd_same) (fun a ha => delH_ne ha) d v c h
end
def loF : Res Dt → Res Dt
  | .ok d => if lfD d = true then .ok d else .bad
  | _ => .bad
/-! ### promises of methods -/
def SesV (K : PySem.W.Frag) (F H : Hp) (a p q : Addr) : SV → Prop
  | .se L D U => SesAt K F H a p q L D U
  | _ => False
/-- a method that only looks -/
def spQ (K : PySem.W.Frag) (Fs : Dt → List Dt → List Dt → Res Dt) : Sp := fun vs H Q _ => ∃ F a p q L D U, vs = [.ref a] ∧ Same F H ∧ TabsF (tabsOf K) F H ∧ SesAt K F H a p q L D U ∧ (F a = none ∧ F p = none ∧ F q = none) ∧ match Fs L D U with
  | .ok d => ∀ v F' H', Gr0 K F H F' H' → Dq K F' v d → Q v H'
  | _ => False
/-- a method that may change the session -/
def spM (K : PySem.W.Frag) (mg : Str → Option Value) (n : Nat) (Fs : Dt → List Dt → List Dt → List Dt → Res (Dt × SV)) : Sp := fun vs H Q E => ∃ F a p q L D U vr ds, vs = .ref a :: vr ∧ Same F H ∧ TabsF (tabsOf K) F H ∧ SesAt K F H a p q L D U ∧ (F a = none ∧ F p = none ∧ F q = none) ∧
  DqAll K F vr ds ∧ ds.length = n ∧ match Fs L D U ds with
  | .ok r => ∀ v F' H' p' q', Gr0 K F (delS H a p q) F' H' → SesV K F' H' a p' q' r.2 → (F' a = none ∧ F' p' = none ∧ F' q' = none) → delS H a p q p' = none → delS H a p q q' = none → Dq K F' v r.1 → Q v H'
  | .exc c => ∀ F' H', Gr0 K F H F' H' → XEof mg E c H'
  | .bad => False
/-- __init__: at a stands an instance that has nothing yet; H0 is what stood before it -/
def spI (K : PySem.W.Frag) (mg : Str → Option Value) (Fs : Dt → Res SV) : Sp := fun vs H Q E => ∃ F H0 a dx v L, vs = [.ref a, v] ∧ Same F H0 ∧ TabsF (tabsOf K) F H0 ∧ Gr0 K F H0 F H ∧ H0 a = none ∧ H a = some (.ins (SC K) dx []) ∧ Dq K F v L ∧ match Fs L with
  | .ok sv => ∀ F' H' p q, Gr0 K F H0 F' H' → SesV K F' H' a p q sv → (F' a = none ∧ F' p = none ∧ F' q = none) → H0 p = none → H0 q = none → Q .non H'
  | .exc c => ∀ F' H', Gr0 K F H0 F' H' → XEof mg E c H'
  | .bad => False
def EW (W : WX) : XK := fun cls d H => ∀ σ, W cls d σ H
theorem passW {X : Cx} {W : WX} (tk : Takes X W) : Passes (L2.CX X.prog X.w) X (EW W) := fun _ σ _ _ e s' I c => tk e s' (XE.of_call I (fun _ _ _ h => h σ) c)
theorem xe_W {X : Cx} {XE : Str → Hp → Prop} {W : WX} (hW : ∀ c σ H, XE c H → ∃ C, X.mg c = some (.ref C) ∧ W (.ref C) none σ H) {c : Str} {H : Hp} (h : XE c H) : XEof X.mg (EW W) c H := by
  obtain ⟨C, h1, h2⟩ := hW c [] H h
  refine ⟨C, h1, fun σ => ?_⟩
  obtain ⟨C', h3, h4⟩ := hW c σ H h
  rw [h1] at h3
  cases h3
  exact h4
theorem Gr0.nn {K : PySem.W.Frag} {F H F' H' : Hp} {x : Addr} (g : Gr0 K F H F' H') (h1 : F x = none) (h2 : H x ≠ none) : F' x = none := Classical.byContradiction fun z => by
  rcases g.nw x z with w | w
  · exact w h1
  · exact h2 w
theorem SesAt.n3 {K : PySem.W.Frag} {F H F' H' : Hp} {a p q : Addr} {L : Dt} {D U : List Dt} (s : SesAt K F H a p q L D U) (g : Gr0 K F H F' H') (n : F a = none ∧ F p = none ∧ F q = none) : F' a = none ∧ F' p = none ∧ F' q = none := by
  have h : ∀ x, x = a ∨ x = p ∨ x = q → H x ≠ none := fun x hx => by
    obtain ⟨o, h1, _⟩ := s.pts x hx
    rw [h1]; exact fun z => nomatch z
  exact ⟨g.nn n.1 (h _ (.inl rfl)), g.nn n.2.1 (h _ (.inr (.inl rfl))), g.nn n.2.2 (h _ (.inr (.inr rfl)))⟩
/-- first a growth, then changes within the session, then a growth of the rest -/
theorem Gr0.after {K : PySem.W.Frag} {F H F1 H1 H2 F3 H3 : Hp} {a p q p' q' : Addr} (g : Gr0 K F H F1 H1) (hp : p' = p ∨ H1 p' = none) (hq : q' = q ∨ H1 q' = none) (h2 : ∀ x, ¬ (x = a ∨ x = p ∨ x = q ∨ x = p' ∨ x = q') → H2 x = H1 x)
    (tb2 : TabsF (tabsOf K) F1 (delS H2 a p' q')) (g3 : Gr0 K F1 (delS H2 a p' q') F3 H3) : Gr0 K F (delS H a p q) F3 H3 ∧ ∀ x, delS H2 a p' q' x = none → delS H a p q x = none := by
  have nx : ∀ x, H1 x = none → H x = none := fun x hx => Classical.byContradiction fun z => g.th x z hx
  have dn : ∀ x, delS H2 a p' q' x = none → delS H a p q x = none := fun x hx => by
    by_cases h : x = a ∨ x = p ∨ x = q
    · exact delS_in h
    · rw [delS_out h]
      by_cases h' : x = a ∨ x = p' ∨ x = q'
      · rcases h' with z | z | z
        · exact absurd (.inl z) h
        · rcases hp with w | w
          · exact absurd (.inr (.inl (z.trans w))) h
          · rw [z]; exact nx _ w
        · rcases hq with w | w
          · exact absurd (.inr (.inr (z.trans w))) h
          · rw [z]; exact nx _ w
      · rw [delS_out h', h2 x (fun z => by
          rcases z with z | z | z | z | z
          · exact h (.inl z)
          · exact h (.inr (.inl z))
          · exact h (.inr (.inr z))
          · exact h' (.inr (.inl z))
          · exact h' (.inr (.inr z)))] at hx
        exact nx x hx
  refine ⟨⟨g.ff.trans g3.ff, g3.fh, fun x e => ?_, fun x o e n m => ?_, fun x e => ?_, fun _ => g3.tb tb2⟩, dn⟩
  · rcases g3.nw x e with z | z
    · rcases g.nw x z with w | w
      · exact .inl w
      · refine .inr ?_
        by_cases h : x = a ∨ x = p ∨ x = q
        · exact delS_in h
        · rw [delS_out h]; exact w
    · exact .inr (dn x z)
  · obtain ⟨h, e⟩ := delS_some e
    have e1 := g.kp x o e n m
    refine g3.kp x o ?_ n m
    have h' : ¬ (x = a ∨ x = p' ∨ x = q') := fun z => by
      rcases z with z | z | z
      · exact h (.inl z)
      · rcases hp with w | w
        · exact h (.inr (.inl (z.trans w)))
        · rw [z, w] at e1; cases e1
      · rcases hq with w | w
        · exact h (.inr (.inr (z.trans w)))
        · rw [z, w] at e1; cases e1
    rw [delS_out h', h2 x (fun z => by
      rcases z with z | z | z | z | z
      · exact h (.inl z)
      · exact h (.inr (.inl z))
      · exact h (.inr (.inr z))
      · exact h' (.inr (.inl z))
      · exact h' (.inr (.inr z)))]
    exact e1
  · exact g3.th x fun z => e (dn x z)
/-- no name of a field -/
structure NoF (m : Str) : Prop where
  l : (m == "ladder") = false
  d : (m == "done") = false
  u : (m == "undone") = false
def eQ (i : Nat) (Fs : Dt → List Dt → List Dt → Res Dt) : SE := fun ρ W => match ρ[i]? with
  | some (some (.se L D U)) => resT (Fs L D U) W
  | _ => .bad
/-- expressions that may change sessions of the slots -/
abbrev SX := Sl → Tw → Res (Dt × Sl × Tw)
def PX {α : Type} (K : PySem.W.Frag) (XE : Str → Hp → Prop) (G : Gh) (F : Hp) (σ : L2.St) (r : Res (α × Sl × Tw)) (Q : α → Gh → Hp → Hp → Prop) : Prop := match r with
  | .ok p => ∀ G' F' H', SameB G G' → Same F F' → Rel K G' p.2.1 p.2.2 σ F' H' → Q p.1 G' F' H'
  | .exc c => ∀ F' H', Gr G.K G.tm G.F0 G.H0 F' H' → XE c H'
  | .bad => False
def tX (K : PySem.W.Frag) (XE : Str → Hp → Prop) (f : SX) : TE := fun σ H Q => ∃ G ρ W F, Rel K G ρ W σ F H ∧ PX K XE G F σ (f ρ W) fun d _ F' H' => ∀ v, Dq K F' v d → Q v H'
abbrev SXB := Sl → Tw → Res (Bool × Sl × Tw)
def tXB (K : PySem.W.Frag) (XE : Str → Hp → Prop) (f : SXB) : TT := fun σ H Q => ∃ G ρ W F, Rel K G ρ W σ F H ∧ PX K XE G F σ (f ρ W) fun b _ _ H' => Q b H'
def xMeth (i n : Nat) (Fs : Dt → List Dt → List Dt → List Dt → Res (Dt × SV)) (a : SA) : SX := fun ρ W => match ρ[i]? with
  | some (some (.se L D U)) => (a ρ W).bind fun p => if p.1.length = n then (Fs L D U p.1).bind fun r => .ok (r.1, ρ.set i (some r.2), p.2) else .bad
  | _ => .bad
def xBin (g : Dt → Dt → Option Dt) (a b : SX) : SX := fun ρ W => (a ρ W).bind fun p => (b p.2.1 p.2.2).bind fun q => match g p.1 q.1 with
  | some d => .ok (d, q.2)
  | none => .bad
def xbOf (a : SX) : SXB := fun ρ W => (a ρ W).bind fun p => match asB p.1 with
  | some b => .ok (b, p.2)
  | none => .bad
def xbP (f : SB) : SXB := fun ρ W => (f ρ W).bind fun p => .ok (p.1, ρ, p.2)
def xbOr (a b : SXB) : SXB := fun ρ W => (a ρ W).bind fun p => if p.1 = true then .ok (true, p.2) else b p.2.1 p.2.2
def sIfX (c : SXB) (a b : SS) : SS := fun ρ W => match c ρ W with
  | .ok p => if p.1 = true then a p.2.1 p.2.2 else b p.2.1 p.2.2
  | .exc c => .exc c
  | .bad => .bad
def sExprX (e : SX) : SS := fun ρ W => match e ρ W with
  | .ok p => .nx p.2.1 p.2.2
  | .exc c => .exc c
  | .bad => .bad
def sNewS (i : Nat) (Fs : Dt → Res SV) (e : SE) : SS := fun ρ W => rOut (e ρ W) fun d W1 => if i < ρ.length then (match Fs d with
  | .ok sv => .nx (ρ.set i (some sv)) W1
  | .exc c => .exc c
  | .bad => .bad) else .bad
section
variable {K : PySem.W.Frag} {XE : Str → Hp → Prop} {G G1 : Gh} {F F1 : Hp} {σ : L2.St}
theorem PX.of_bind {α β : Type} {r : Res (α × Sl × Tw)} {k : α × Sl × Tw → Res (β × Sl × Tw)} {Q : β → Gh → Hp → Hp → Prop} (h : PX K XE G F σ (r.bind k) Q) : (∃ p, r = .ok p ∧ PX K XE G F σ (k p) Q) ∨ (∃ c, r = .exc c ∧ ∀ F' H', Gr G.K G.tm G.F0 G.H0 F' H' → XE c H') := by
  cases r with
  | ok p => exact .inl ⟨p, rfl, h⟩
  | exc c => exact .inr ⟨c, rfl, h⟩
  | bad => exact h.elim
theorem PX.shift {α : Type} {r : Res (α × Sl × Tw)} {Q : α → Gh → Hp → Hp → Prop} (h : PX K XE G F σ r Q) (b : SameB G G1) (s : Same F F1) : PX K XE G1 F1 σ r Q := by
  cases r with
  | ok p => exact fun G2 F2 H2 b2 s2 R2 => h G2 F2 H2 (b.trans b2) (s.trans s2) R2
  | exc c => exact fun F2 H2 g => h F2 H2 (by
      unfold Gh.tm at g ⊢
      rw [b.T0, b.F0, b.H0, b.K] at g
      exact g)
  | bad => exact h
theorem PX.of_pure {α β : Type} {r : Res (α × Tw)} {k : α × Tw → Res (β × Sl × Tw)} {Q : β → Gh → Hp → Hp → Prop} (h : PX K XE G F σ (r.bind k) Q) : Pg XE G r fun a W' => PX K XE G F σ (k (a, W')) Q := by
  cases r with
  | ok p => exact h
  | exc c => exact h
  | bad => exact h
end
section
variable {X : Cx} {XE : Str → Hp → Prop} {e a b c : Expr} {es : List Expr} {pos p pt apos : Pos} {fa : SE} {xa xb : SX} {ba bb : SXB} {ga : SA} {k n i : Nat} {f : Addr} {fd : FuncData} {ps : List Str} {x t m : Str}
theorem d_query {Fs : Dt → List Dt → List Dt → Res Dt} {pl : Sem Bool} (C : SesC X.K) (hm : Meth X.K (SC X.K) m f) (nf : NoF m) (Fo : FnOk X.prog X.w X.K X.mg X.base CX0 k f fd ps (spQ X.K Fs)) (hr : Room k X.A) (hb : Binds X.K fd ps []) (hv : PE X (.Name x p) (tVar i))
    (ht : eval (.Call (.Attribute (.Name x p) m apos) [] [] pos) X.env = (do
      let ov ← eval (.Name x p) X.env
      standAt apos.atName
      let (f, first) ← holding [ov] (getMethod ov m pl)
      callWith pos f first (backTo pos (starEach [] X.env)) (backToKw pos (keywordEach [] X.env))) := by rfl) :
    PE X (.Call (.Attribute (.Name x p) m apos) [] [] pos) (tE X.K XE (eQ i Fs)) := by
  refine (pe_meth0 (pl := pl) hv C.cl hm Fo hr hb .nil pass0 ht).weak fun σ H Q ⟨G, ρ, W, F, R, q⟩ => ?_
  unfold eQ at q
  split at q
  · rename_i L D U hs
    obtain ⟨v, h1, a, p', q', rfl, hf, s⟩ := R.sl i _ hs
    have hn : ∀ x ∈ [a, p', q'], F x = none := fun x hx => (R.fr i x (by rw [hf]; exact hx)).1
    obtain ⟨dx, vL, vD, vU, k1, k2⟩ := id s
    refine ⟨_, h1, a, dx, _, rfl, k1, sesF_no nf.l nf.d nf.u, ?_⟩
    obtain ⟨d, hd, q⟩ := Pg.of_resT q
    refine ⟨F, a, p', q', L, D, U, rfl, R.fh, R.tb, s, ⟨hn _ (by simp), hn _ (by simp), hn _ (by simp)⟩, ?_⟩
    rw [hd]
    exact fun v F' H' g hv => q v F' H' g.ff (R.grow g) hv
  · exact q.elim
theorem x_meth {Fs : Dt → List Dt → List Dt → List Dt → Res (Dt × SV)} {pl : Sem Bool} (C : SesC X.K) (hm : Meth X.K (SC X.K) m f) (nf : NoF m) (Fo : FnOk X.prog X.w X.K X.mg X.base (L2.CX X.prog X.w) k f fd ps (spM X.K X.mg n Fs)) (hr : Room k X.A) (hb : Binds X.K fd ps []) (tk : TkX X XE) (hv : PE X (.Name x p) (tVar i)) (ha : PA X (e :: es) (tA X.K XE ga))
    (hst : starEach (e :: es) X.env = (false, eval e X.env) :: starEach es X.env := by rfl) (hpl : (backTo pos (starEach es X.env)).any (·.1) = false := by rfl)
    (ht : eval (.Call (.Attribute (.Name x p) m apos) (e :: es) [] pos) X.env = (do
      let ov ← eval (.Name x p) X.env
      standAt apos.atName
      let (f, first) ← holding [ov] (getMethod ov m pl)
      callWith pos f first (backTo pos (starEach (e :: es) X.env)) (backToKw pos (keywordEach [] X.env))) := by rfl) :
    PE X (.Call (.Attribute (.Name x p) m apos) (e :: es) [] pos) (tX X.K XE (xMeth i n Fs ga)) := by
  obtain ⟨Wx, tw, hW⟩ := tk
  refine (pe_meth (pl := pl) hv C.cl hm Fo hr hb .nil (passW tw) ha hst hpl ht).weak fun σ H Q ⟨G, ρ, W, F, R, q⟩ => ?_
  unfold xMeth at q
  split at q
  · rename_i L D U hs
    obtain ⟨v, h1, a, p', q', rfl, hf, s⟩ := R.sl i _ hs
    obtain ⟨dx, vL, vD, vU, k1, k2⟩ := id s
    refine ⟨_, h1, a, dx, _, rfl, k1, sesF_no nf.l nf.d nf.u, G, ρ, W, F, R, (PX.of_pure q).mono fun ds W1 q vs F1 H1 s1 R1 hvs => ?_⟩
    by_cases hl : ds.length = n
    · rw [if_pos hl] at q
      obtain ⟨v2, h1', a2, p2, q2, e1, hf2, s2⟩ := R1.sl i _ hs
      rw [h1] at h1'
      cases h1'
      cases e1
      have hn : ∀ x ∈ [a, p2, q2], F1 x = none := fun x hx => (R1.fr i x (by rw [hf2]; exact hx)).1
      refine ⟨F1, a, p2, q2, L, D, U, vs, ds, by rw [List.append_nil], R1.fh, R1.tb, s2, ⟨hn _ (by simp), hn _ (by simp), hn _ (by simp)⟩, hvs, hl, ?_⟩
      cases hF : Fs L D U ds with
      | ok r =>
        rw [hF] at q
        intro v F' H' p3 q3 g s3 n3 np nq hv
        obtain ⟨r1, r2⟩ := r
        cases r2 with
        | se L' D' U' => exact q (G.ownL i [a, p3, q3]) F' H' (G.ownL_same i _) (s1.trans g.ff) (R1.seCallL hs h1 hf2 s2 g s3 n3 np nq) v hv
        | _ => exact s3.elim
      | exc c =>
        rw [hF] at q
        exact fun F' H' g => xe_W hW (q F' H' (R1.grow g).gr0)
      | bad => rw [hF] at q; exact q.elim
    · rw [if_neg hl] at q; exact q.elim
  · exact q.elim
theorem x_meth0 {Fs : Dt → List Dt → List Dt → List Dt → Res (Dt × SV)} {pl : Sem Bool} (C : SesC X.K) (hm : Meth X.K (SC X.K) m f) (nf : NoF m) (Fo : FnOk X.prog X.w X.K X.mg X.base (L2.CX X.prog X.w) k f fd ps (spM X.K X.mg 0 Fs)) (hr : Room k X.A) (hb : Binds X.K fd ps []) (tk : TkX X XE) (hv : PE X (.Name x p) (tVar i))
    (ht : eval (.Call (.Attribute (.Name x p) m apos) [] [] pos) X.env = (do
      let ov ← eval (.Name x p) X.env
      standAt apos.atName
      let (f, first) ← holding [ov] (getMethod ov m pl)
      callWith pos f first (backTo pos (starEach [] X.env)) (backToKw pos (keywordEach [] X.env))) := by rfl) :
    PE X (.Call (.Attribute (.Name x p) m apos) [] [] pos) (tX X.K XE (xMeth i 0 Fs aNil)) := by
  obtain ⟨Wx, tw, hW⟩ := tk
  refine (pe_meth0 (pl := pl) hv C.cl hm Fo hr hb .nil (passW tw) ht).weak fun σ H Q ⟨G, ρ, W, F, R, q⟩ => ?_
  unfold xMeth at q
  split at q
  · rename_i L D U hs
    obtain ⟨v, h1, a, p', q', rfl, hf, s⟩ := R.sl i _ hs
    obtain ⟨dx, vL, vD, vU, k1, k2⟩ := id s
    refine ⟨_, h1, a, dx, _, rfl, k1, sesF_no nf.l nf.d nf.u, ?_⟩
    have hn : ∀ x ∈ [a, p', q'], F x = none := fun x hx => (R.fr i x (by rw [hf]; exact hx)).1
    refine ⟨F, a, p', q', L, D, U, [], [], rfl, R.fh, R.tb, s, ⟨hn _ (by simp), hn _ (by simp), hn _ (by simp)⟩, .nil, rfl, ?_⟩
    have q : PX X.K XE G F σ ((Fs L D U []).bind fun r => .ok (r.1, ρ.set i (some r.2), W)) fun d _ F' H' => ∀ v, Dq X.K F' v d → Q v H' := q
    cases hF : Fs L D U [] with
    | ok r =>
      rw [hF] at q
      intro v F' H' p3 q3 g s3 n3 np nq hv
      obtain ⟨r1, r2⟩ := r
      cases r2 with
      | se L' D' U' => exact q (G.ownL i [a, p3, q3]) F' H' (G.ownL_same i _) g.ff (R.seCallL hs h1 hf s g s3 n3 np nq) v hv
      | _ => exact s3.elim
    | exc c =>
      rw [hF] at q
      exact fun F' H' g => xe_W hW (q F' H' (R.grow g).gr0)
    | bad => rw [hF] at q; exact q.elim
  · exact q.elim
theorem xBin_of {g : Dt → Dt → Option Dt} {σ : L2.St} {H : Hp} {Q : VK} (h : tX X.K XE (xBin g xa xb) σ H Q) : tOp (RD2 X.K g) (tX X.K XE xa) (tX X.K XE xb) σ H Q := by
  obtain ⟨G, ρ, W, F, R, q⟩ := h
  unfold xBin at q
  refine ⟨G, ρ, W, F, R, ?_⟩
  rcases PX.of_bind q with ⟨p, hp, q⟩ | ⟨c, hc, q⟩
  · rw [hp]
    intro G1 F1 H1 b1 s1 R1 v hv
    refine ⟨G1, p.2.1, p.2.2, F1, R1, ?_⟩
    rcases PX.of_bind (q.shift b1 s1) with ⟨r, hr, q⟩ | ⟨c, hc, q⟩
    · rw [hr]
      intro G2 F2 H2 b2 s2 R2 w hw
      cases hg : g p.1 r.1 with
      | none => simp only [hg] at q; exact q.elim
      | some d =>
        simp only [hg] at q
        exact ⟨F2, p.1, r.1, d, R2.fh, .inl (hv.mono s2), .inl hw, hg, fun u F' H' g0 hu => q G2 F' H' b2 (s2.trans g0.ff) (R2.grow g0) u hu⟩
    · rw [hc]; exact q
  · rw [hc]; exact q
theorem x_cmp {op : CmpOp} {g : Dt → Dt → Option Dt} (ho : OpR X (compareOp op) (RD2 X.K g)) (ha : PE X a (tX X.K XE xa)) (hb : PE X b (tX X.K XE xb)) (hm : behindInMarks op b = false) : PT X (.Compare a [op] [b] pos) (tXB X.K XE (xbOf (xBin g xa xb))) := by
  refine (pt_cmpR ho ha hb hm).weak fun σ H Q ⟨G, ρ, W, F, R, q⟩ => xBin_of ⟨G, ρ, W, F, R, ?_⟩
  unfold xbOf at q
  rcases PX.of_bind q with ⟨p, hp, q⟩ | ⟨c, hc, q⟩
  · rw [hp]
    intro G1 F1 H1 b1 s1 R1 v hv
    cases hb : asB p.1 with
    | none => simp only [hb] at q; exact q.elim
    | some k =>
      simp only [hb] at q
      have hd : p.1 = .bool k := by
        cases hd : p.1 <;> rw [hd] at hb <;> simp only [asB] at hb <;> cases hb
        rfl
      rw [hd] at hv
      cases hv
      exact ⟨_, rfl, q G1 F1 H1 b1 s1 R1⟩
  · rw [hc]; exact q
theorem x_bpure {fb : SB} (h : PT X e (tT X.K XE fb)) : PT X e (tXB X.K XE (xbP fb)) :=
  h.weak fun σ H Q ⟨G, ρ, W, F, R, q⟩ => ⟨G, ρ, W, F, R, (PX.of_pure q).mono fun d W1 q F1 H1 s1 R1 => q G F1 H1 (.refl _) s1 R1⟩
theorem x_wpure {fb : SB} (h : PW X e (tT X.K XE fb)) : PW X e (tXB X.K XE (xbP fb)) :=
  h.weak fun σ H Q ⟨G, ρ, W, F, R, q⟩ => ⟨G, ρ, W, F, R, (PX.of_pure q).mono fun d W1 q F1 H1 s1 R1 => q G F1 H1 (.refl _) s1 R1⟩
variable {rest : List Expr}
theorem x_or (ha : PT X a (tXB X.K XE ba)) (hb : PW X (.BoolOp .Or (b :: rest) pos) (tXB X.K XE bb)) : PW X (.BoolOp .Or (a :: b :: rest) pos) (tXB X.K XE (xbOr ba bb)) := by
  refine (pw_or ha hb).weak fun σ H Q ⟨G, ρ, W, F, R, q⟩ => ?_
  unfold xbOr at q
  refine ⟨G, ρ, W, F, R, ?_⟩
  rcases PX.of_bind q with ⟨p, hp, q⟩ | ⟨c, hc, q⟩
  · rw [hp]
    intro G1 F1 H1 b1 s1 R1
    obtain ⟨k, ρ1, W1⟩ := p
    cases k with
    | true => exact q G1 F1 H1 b1 s1 R1
    | false => exact ⟨G1, ρ1, W1, F1, R1, q.shift b1 s1⟩
  · rw [hc]; exact q
theorem s_ifX {as bs : List Stmt} {fa fb : SS} (hc : PT X c (tXB X.K XE ba)) (ha : PSs X as (tS X.K XE fa)) (hb : PSs X bs (tS X.K XE fb)) : PS X (.If c as bs pos) (tS X.K XE (sIfX ba fa fb)) := by
  refine (ps_if hc ha hb).weak fun D σ H ⟨G, ρ, W, F, R, q⟩ => ⟨G, ρ, W, F, R, ?_⟩
  unfold sIfX at q
  cases hr : ba ρ W with
  | ok p =>
    simp only [hr] at q
    intro G1 F1 H1 b1 s1 R1
    obtain ⟨k, ρ1, W1⟩ := p
    cases k with
    | true => exact ⟨G1, ρ1, W1, F1, R1, Po.shift q b1 s1⟩
    | false => exact ⟨G1, ρ1, W1, F1, R1, Po.shift q b1 s1⟩
  | exc c => simp only [hr] at q; exact q
  | bad => simp only [hr] at q; exact q.elim
theorem s_exprX (he : PE X e (tX X.K XE xa)) (hs : swapsWith e none pos.line X.env = pure false := by rfl) : PS X (.Expr e pos) (tS X.K XE (sExprX xa)) := by
  refine (ps_expr he hs).weak fun D σ H ⟨G, ρ, W, F, R, q⟩ => ⟨G, ρ, W, F, R, ?_⟩
  unfold sExprX at q
  cases hr : xa ρ W with
  | ok p =>
    simp only [hr] at q
    exact fun G1 F1 H1 b1 s1 R1 v hv => q G1 σ F1 H1 b1 s1 R1
  | exc c => simp only [hr] at q; exact q
  | bad => simp only [hr] at q; exact q.elim
/-- x = Session(e) -/
def tNewS (K : PySem.W.Frag) (XE : Str → Hp → Prop) (Fs : Dt → Res SV) (fe : SE) : TE := fun σ H Q => ∃ G ρ W F, Rel K G ρ W σ F H ∧ Pg XE G (fe ρ W) fun d W1 => match Fs d with
  | .ok sv => ∀ a p q F1 H1 F' H', Same F F1 → Rel K G ρ W1 σ F1 H1 → Gr0 K F1 H1 F' H' → SesV K F' H' a p q sv → (F' a = none ∧ F' p = none ∧ F' q = none) → (H1 a = none ∧ H1 p = none ∧ H1 q = none) → Q (.ref a) H'
  | .exc c => ∀ F' H', Gr G.K G.tm G.F0 G.H0 F' H' → XE c H'
  | .bad => False
theorem e_newS {Fs : Dt → Res SV} (M : Mk X.K (SC X.K) f) (Fo : FnOk X.prog X.w X.K X.mg X.base (L2.CX X.prog X.w) k f fd ps (spI X.K X.mg Fs)) (hr : Room (k + 1) X.A) (hg : Gl X x) (hm : X.mg x = some (.ref (SC X.K))) (hb : Binds X.K fd ps []) (tk : TkX X XE) (ha : PE X e (tE X.K XE fa))
    (hdb : (x == ("__debug__" : Str)) = false := by decide) (he : starEach [e] X.env = (false, eval e X.env) :: starEach [] X.env := by rfl) (hpl : (backTo pos (starEach [] X.env)).any (·.1) = false := by rfl) :
    PE X (.Call (.Name x p) [e] [] pos) (tNewS X.K XE Fs fa) := by
  obtain ⟨Wx, tw, hW⟩ := tk
  refine (pe_make M Fo hr hg hm hb .nil (passW tw) (pa_cons ha pa_nil he) hdb he hpl).weak fun σ H Q ⟨G, ρ, W, F, R, q⟩ => ?_
  refine ⟨G, ρ, W, F, R, q.mono fun d W1 q v F1 H1 s1 R1 hv => ?_⟩
  intro y dx ny ndx hne
  have g1 : Gr0 X.K F1 H1 F1 (upd H1 dx (.own y)) := .newH R1.fh ndx
  have ny1 : upd H1 dx (.own y) y = none := by rw [upd_ne (Ne.symm hne)]; exact ny
  have g2 : Gr0 X.K F1 (upd H1 dx (.own y)) F1 (upd (upd H1 dx (.own y)) y (.ins (SC X.K) dx [])) := .newH g1.fh ny1
  have gg := g1.trans g2
  refine ⟨F1, H1, y, dx, v, d, rfl, R1.fh, R1.tb, gg, ny, upd_same, hv, ?_⟩
  cases hF : Fs d with
  | ok sv =>
    simp only [hF] at q
    exact fun F' H' p q' g sv n np nq => ⟨rfl, q y p q' F1 H1 F' H' s1 R1 g sv n ⟨ny, np, nq⟩⟩
  | exc c =>
    simp only [hF] at q
    exact fun F' H' g => xe_W hW (q F' H' (R1.grow g).gr0)
  | bad => first | (simp only [hF] at q; done) | (simp only [hF] at q; exact q.elim)
theorem s_newS {st : Stmt} {Fs : Dt → Res SV} (h : PS X st (tAsg (tNewS X.K XE Fs fa) (gName i))) : PS X st (tS X.K XE (sNewS i Fs fa)) :=
  h.weak fun D σ H ⟨G, ρ, W, F, R, q⟩ => ⟨G, ρ, W, F, R, q.of_rOut.mono fun d W1 q => by
    obtain ⟨hi, q⟩ := Po.of_ite q
    cases hF : Fs d with
    | ok sv =>
      simp only [hF] at q ⊢
      intro a p' q' F1 H1 F' H' s1 R1 g s n nn
      cases sv with
      | se L D U => exact q _ _ F' H' (G.ownL_same i _) (s1.trans g.ff) (R1.seNew hi g s n nn.1 nn.2.1 nn.2.2)
      | _ => exact s.elim
    | exc c => simp only [hF] at q ⊢; exact q
    | bad => first | (simp only [hF] at q; done) | (simp only [hF] at q; exact q.elim)⟩
end
end Sx

namespace Sx
open PySem PySem.W PySem.Calls PyProof.Rows HandSHeadRun
/-! ### the head's run in two parts: what the kernel must hold at once is less -/
end Sx

namespace Sx
open PySem PySem.Spec PyProof.Rows L2
/-! ### isinstance(x, (T1, T2)) -/
section
variable {X : Cx} {XE : Str → Hp → Prop} {a : Expr} {fa : SE} {p pos : Pos}
end
/-! ### what a class's methods promise -/
def MQ (P : Program) (w : World) (K : PySem.W.Frag) (mg : Str → Option Value) (base : Heap) (m : Str) (k : Nat) (Fs : Dt → List Dt → List Dt → Res Dt) : Prop :=
  ∃ f fd, Meth K (SC K) m f ∧ FnOk P w K mg base CX0 k f fd ["self"] (spQ K Fs) ∧ Binds K fd ["self"] []
def MM (P : Program) (w : World) (K : PySem.W.Frag) (mg : Str → Option Value) (base : Heap) (m : Str) (k n : Nat) (ps : List Str) (Fs : Dt → List Dt → List Dt → List Dt → Res (Dt × SV)) : Prop :=
  ∃ f fd, Meth K (SC K) m f ∧ FnOk P w K mg base (L2.CX P w) k f fd ps (spM K mg n Fs) ∧ Binds K fd ps []
def MI (P : Program) (w : World) (K : PySem.W.Frag) (mg : Str → Option Value) (base : Heap) (k : Nat) (Fs : Dt → Res SV) : Prop :=
  ∃ f fd, Mk K (SC K) f ∧ FnOk P w K mg base (L2.CX P w) k f fd ["self", "ladder"] (spI K mg Fs) ∧ mg "Session" = some (.ref (SC K)) ∧ Binds K fd ["self", "ladder"] []
theorem toFunM {K : PySem.W.Frag} {x q : Str} {st : Stmt} {f : Addr} {fd : FuncData} (F : FunD K x q (defArgs st) (defBody st) (defScope st) [] [] f fd) : Fun K x q st f fd := by
  obtain ⟨⟨oc, od, dV, kV, doc, pm, an, cdv, ct, osl, e, h1, h2, h3, h4⟩, kp⟩ := F
  refine ⟨⟨oc, od, kV, doc, pm, an, cdv, ct, osl, ?_, h1, h2⟩, kp⟩
  rw [e]
  have h : dV = Value.none := by
    rcases h3 with ⟨_, h⟩ | h
    · exact h
    · obtain ⟨_, _, _, _, _, _, _⟩ := h
      simp_all
  rw [h]
theorem nf_total : NoF "total" := ⟨by decide +kernel, by decide +kernel, by decide +kernel⟩
theorem nf_paid : NoF "paid" := ⟨by decide +kernel, by decide +kernel, by decide +kernel⟩
theorem nf_put : NoF "put" := ⟨by decide +kernel, by decide +kernel, by decide +kernel⟩
theorem nf_undo : NoF "undo" := ⟨by decide +kernel, by decide +kernel, by decide +kernel⟩
theorem nf_redo : NoF "redo" := ⟨by decide +kernel, by decide +kernel, by decide +kernel⟩
end Sx

namespace PySem.W
open PySem.Builtin PySem PyProof.Rows
section
variable {prog : Program} {w : World} {A A₀ : Around} {E : Value → Shared → Prop} {s : Shared} {K : Frag} {x C L f : Addr} {h₀ : Heap} {m : Str → Option Value} {ox : Obj} {od : Option Obj} {name : Str} {b tb : Value}
theorem sx_ifBound_B {M : Model} {id : String} {args : List Value} {Q : Option Value → Shared → Prop} (X : K.In s.heap) (I : InstAt s.heap x ox C od) (hs : findIn K (.ref C) name = some (some (.builtin id))) (hb : ∀ self, bindSpecial (.builtin id) self = pure (.builtin id, [self]))
    (h : wpAny M A (call (.builtin id) (.ref x :: args)) (fun v => Q (some v)) E s) : wpAny M A (callSpecialIfBound? (.ref x) name args) Q E s := by
  simp only [callSpecialIfBound?, bindSpecialIfBound?]
  refine wpAny_holding (wpAny_bind (wpAny_bind (wpAny_bind (I.type.here ((looks_findIn X hs).here ?_)))))
  refine wpAny_bind (wpAny_askSetting (wpAny_ite ?_))
  have fin : wpAny M A (call (.builtin id) ([.ref x] ++ args) >>= fun v => pure (some v)) Q E s := wpAny_bind (wpAny_mono h (fun v s' h' => wpAny_pure h') fun _ _ h' => h')
  split
  · exact wpAny_bind ((Looks.of_pure (hb _)).here (wpAny_pure (by exact fin)))
  · exact wpAny_tryCatch (wpAny_bind ((Looks.of_pure (hb _)).here (wpAny_pure (by exact fin))))
theorem sx_objNe {Q : Value → Shared → Prop} (hu : A.in1.units < cLine) (X : K.In s.heap) (I : InstAt s.heap x ox C od) (hm : mroIn K C (.type "object") = some true) (hs : findIn K (.ref C) "__eq__" = some (some (.ref f))) (hf : isFn K (.ref f) = true)
    (h : wpAny (model prog w) A.in1 (call (.ref f) [.ref x, b]) (fun v s' => ∃ k, v = .bool k ∧ Q (.bool (!k)) s') E s) : wpAny (model prog w) A (call (.builtin "object.__ne__") [.ref x, b]) Q E s := by
  refine wpAny_call (codeAny_call_builtin PySem.F.cmp_object.ne.plain PySem.F.cmpEntry_ne (check_slot (i := "object.__ne__") (owner := "object") (n := "__ne__") PySem.F.cmpKind_ne PySem.F.cmpSplit_ne (I.type.andThen (looks_mroIn X hm)) (PySem.F.cmpArgs_ne _ _) ?_))
  unfold Builtin.«object.__ne__»
  refine wpAny_bind (m := slotArgs "__ne__" 1 _) (wpAny_pure ?_)
  refine wpAny_bind (m := cRoomFor _ _) (wpAny_cRoomFor hu ?_)
  refine wpAny_bind (m := callSpecialIfBound? (.ref x) (Str.ofString "__eq__") _) (ifBound_K X I hs hf (wpAny_mono h (fun r s' hr => ?_) fun _ _ y => y))
  obtain ⟨k, rfl, hq⟩ := hr
  refine wpAny_bind (m := truthy (.bool _)) (wpAny_truthy_bool ?_)
  exact wpAny_pure hq
theorem sx_ne_K {Q : Value → Shared → Prop} (hu : A.units + 1 < cLine) (F : Fr h₀ L s.heap m) (X₀ : K.In h₀) (I : InstAt s.heap x ox C od) (hb : Looks (model prog w) s.heap (typeOf b) tb) (hn : notFirst K C tb = true)
    (hne : findIn K (.ref C) "__ne__" = some (some (.builtin "object.__ne__"))) (hm : mroIn K C (.type "object") = some true) (hs : findIn K (.ref C) "__eq__" = some (some (.ref f))) (hf : isFn K (.ref f) = true)
    (h : wpAny (model prog w) A.in1 (call (.ref f) [.ref x, b]) (fun v s' => ∃ k, v = .bool k ∧ Q (.bool (!k)) s') E s) : wpAny (model prog w) A (richCompare .NotEq (.ref x) b) Q E s := by
  have X := X₀.keeps F.keep
  have one : wpAny (model prog w) A (tryCompare (.ref x) (cmpInfo .NotEq).2.1 b) (fun r s' => ∃ v, r = some v ∧ Q v s') E s := by
    unfold tryCompare
    refine wpAny_bind (sx_ifBound_B X I hne PySem.F.cmp_object.ne.bind (sx_objNe hu X I hm hs hf (wpAny_mono h (fun v s' hv => ?_) fun _ _ e => e)))
    obtain ⟨k, rfl, hq⟩ := hv
    exact ⟨k, rfl, wpAny_pure ⟨_, rfl, hq⟩⟩
  unfold richCompare
  simp only [oneThing_ref]
  refine wpAny_holding (wpAny_bind (wpAny_cRoomFor (Nat.lt_of_succ_lt hu) ?_))
  refine wpAny_bind (I.type.here (wpAny_bind (hb.here ?_)))
  split
  · rename_i q
    have e : subIn K tb (.ref C) = some false := by
      rcases Bool.or_eq_true_iff.mp hn with e | e
      · rw [beq_iff_eq.mp e] at q; simp at q
      · exact beq_iff_eq.mp e
    refine wpAny_bind ((looks_subIn X e).here ?_)
    simp only [Bool.false_eq_true, if_false]
    refine wpAny_bind (wpAny_mono one (fun r s' z => ?_) fun _ _ e => e)
    obtain ⟨v, rfl, hq⟩ := z
    exact wpAny_pure hq
  · refine wpAny_bind (wpAny_pure ?_)
    simp only [Bool.false_eq_true, if_false]
    refine wpAny_bind (wpAny_mono one (fun r s' z => ?_) fun _ _ e => e)
    obtain ⟨v, rfl, hq⟩ := z
    exact wpAny_pure hq
end
end PySem.W
namespace Sx
open PySem PySem.Spec PyProof.Rows L2
/-! ### special methods of an own class -/
section
variable {X : Cx} {CX : CXT} {n : Nat} {f C : Addr} {fd : FuncData} {ps : List Str} {sp : Sp} {E : XK}
theorem run_atM {pins : List (Addr × Obj)} {σ : L2.St} {H : Hp} {s : Shared} {A : Around} {Q : VK} {us : List Value} {vs : List V} (F : FnOk X.prog X.w X.K X.mg X.base CX n f fd ps sp) (hr : Room n A) (e0 : Env0 X.prog X.w X.K X.mg X.base A X.stack s H) (hb : Binds X.K fd ps []) (hx : Passes CX X E)
    (I : Inv X pins σ H s) (r : Vals vs us) (h : sp vs H Q E) : wpAny (model X.prog X.w) A (call (.ref f) us) (EP X pins σ Q) X.xe s := by
  have hl : us.length = ps.length := by rw [← r.length]; exact F.len _ _ _ _ h
  have b := hb s us I.kIn (by rw [List.append_nil]; exact hl)
  rw [List.append_nil] at b
  refine wpAny_call (codeAny_mono (F.run A X.stack s H ⟨us, []⟩ us vs Q E hr e0 b r h) fun r s' hq => ?_)
  cases r with
  | error e => exact hx pins σ H s e s' I hq
  | ok fl =>
    cases fl with
    | ret u => exact I.after hq
    | next => exact False.elim hq
    | brk => exact False.elim hq
    | cont => exact False.elim hq
def rStrO (C : Addr) (sp : Sp) (E : XK) : List V → Hp → VK → Prop := fun xs H Q => ∃ a dx fs, xs = [V.ref a] ∧ H a = some (.ins C dx fs) ∧ sp [.ref a] H (fun z H' => ∃ y, z = .str y ∧ Q z H') E
theorem call_strO (hs : Meth X.K C "__str__" f) (F : FnOk X.prog X.w X.K X.mg X.base CX n f fd ps sp) (hr : Room (n + 2) X.A) (hb : Binds X.K fd ps []) (hx : Passes CX X E) : CallR X (.type "str") (rStrO C sp E) := by
  intro pins s σ H xs us Q I r h
  obtain ⟨a, dx, fs, rfl, ha, q⟩ := h
  obtain ⟨u, rfl, ru⟩ := r.one
  cases (show u = Value.ref a from ru)
  obtain ⟨mA, O, _⟩ := ins_get I.hok ha
  obtain ⟨od, J, _⟩ := O.look
  have hr2 : Room n X.A.in1.in1 := (show Room (n + 1) X.A.in1 from Room.in1 hr).in1
  refine PySem.W.kso_call hr2.units0 I.kIn J hs.at_ hs.fn (wpAny_mono (run_atM (us := [.ref a]) (vs := [.ref a]) F hr2 I.env0.in1.in1 hb hx I (.cons rfl .nil) q) (fun w s' z => ?_) fun _ _ x => x)
  obtain ⟨z', H', I', rz, y, ey, qz⟩ := z
  subst ey
  obtain ⟨t, e⟩ := (show ∃ t, w = Value.str y t from rz)
  cases e
  exact ⟨.str y, H', I', ⟨_, rfl⟩, qz⟩
/-- what kind of thing a value is -/
inductive TyO (K : PySem.W.Frag) (C : Addr) (H : Hp) : V → Value → Prop
  | ins {b dx : Addr} {fs : List (Str × V)} : H b = some (.ins C dx fs) → TyO K C H (.ref b) (.ref C)
  | of {x : V} {t : Value} : TyX K H x t → TyO K C H x t
def rNeO (K : PySem.W.Frag) (C : Addr) (sp : Sp) (E : XK) : R2 := fun x y H Q => ∃ a dx fs tb, x = .ref a ∧ H a = some (.ins C dx fs) ∧ TyO K C H y tb ∧ PySem.W.notFirst K C tb = true ∧ sp [x, y] H (fun z H' => ∃ k, z = .bl k ∧ Q (.bl (!k)) H') E
theorem tyO_looks {pins : List (Addr × Obj)} {σ : L2.St} {H : Hp} {s : Shared} {y : V} {u tb : Value} (I : Inv X pins σ H s) (ry : RelV y u) (t : TyO X.K C H y tb) : PySem.W.Looks (model X.prog X.w) s.heap (typeOf u) tb := by
  cases t with
  | ins hb =>
    rename_i b dx fs
    cases (show u = Value.ref b from ry)
    obtain ⟨mA, O, _⟩ := ins_get I.hok hb
    obtain ⟨od, J, _⟩ := O.look
    exact J.type
  | of h =>
    obtain ⟨P, Z, p, _⟩ := kit_of I ry h
    exact Z.ty _ _ I.kIn p
theorem op_neO (hs : Meth X.K C "__eq__" f) (hne : PySem.W.findIn X.K (.ref C) "__ne__" = some (some (.builtin "object.__ne__"))) (hm : PySem.W.mroIn X.K C (.type "object") = some true) (F : FnOk X.prog X.w X.K X.mg X.base CX n f fd ps sp) (hr : Room (n + 1) X.A) (hb : Binds X.K fd ps []) (hx : Passes CX X E) : OpR X (compareOp .NotEq) (rNeO X.K C sp E) := by
  intro pins s σ H x y v u Q I rx ry h
  obtain ⟨a, dx, fs, tb, rfl, ha, ty, hn, q⟩ := h
  cases (show v = Value.ref a from rx)
  obtain ⟨mA, O, _⟩ := ins_get I.hok ha
  obtain ⟨od, J, _⟩ := O.look
  obtain ⟨m, hF⟩ := I.fr
  show wpAny _ _ (richCompare .NotEq (.ref a) u) _ _ _
  refine PySem.W.sx_ne_K (tb := tb) (units1 hr) hF I.ok.mod.kin J (tyO_looks I ry ty) hn hne hm hs.at_ hs.fn ?_
  refine wpAny_mono (run_atM (us := [.ref a, u]) (vs := [.ref a, y]) F hr.in1 I.env0.in1 hb hx I (.cons rfl (.cons ry .nil)) q) (fun w s' z => ?_) fun _ _ x => x
  obtain ⟨z', H', I', rz, k, ek, qz⟩ := z
  subst ek
  cases (show w = Value.bool k from rz)
  exact ⟨k, rfl, .bl (!k), H', I', rfl, qz⟩
end
end Sx

namespace Sx
open PySem PySem.Spec PyProof.Rows L2
/-! ### what isinstance and == ask of the class -/
structure SesD (K : PySem.W.Frag) : Prop where
  ca : PySem.W.findIn K (.ref (SC K)) "__class__" = some (some (.builtin "object.__class__"))
  cn : PySem.W.specialIn K (.builtin "object.__class__") "__get__" = some (some (.builtin "getset_descriptor.__get__"))
  ct : PySem.W.takesIn K (.builtin "object.__class__") = some true
  cm : PySem.W.mroIn K (SC K) (.type "object") = some true
  ne : PySem.W.findIn K (.ref (SC K)) "__ne__" = some (some (.builtin "object.__ne__"))
  k0 : PySem.W.kitOne K (.ref (SC K)) (.ref (SC K)) = some true
  kL : PySem.W.kitOne K (.type "list") (.ref (SC K)) = some false
  kS : PySem.W.kitOne K (.type "str") (.ref (SC K)) = some false
  nL : PySem.W.notFirst K (SC K) (.type "list") = true
  nS : PySem.W.notFirst K (SC K) (.type "str") = true
theorem notFirst0 {K : PySem.W.Frag} {C : Addr} : PySem.W.notFirst K C (.ref C) = true := by
  unfold PySem.W.notFirst
  simp
theorem exSd_ok {K : PySem.W.Frag} (h : exSd K = true) : SesD K := by
  unfold exSd at h
  simp only [Bool.and_eq_true, decide_eq_true_eq] at h
  obtain ⟨h1, h2, h3, h4, h5, h6, h7, h8, h9, h10⟩ := h
  exact ⟨He.eqO_ok h1, He.eqO_ok h2, h3, h4, He.eqO_ok h5, h6, h7, h8, h9, h10⟩
/-! ### promises: ==, a call with a session in a tuple, its outcome -/
def eqS (L : Dt) (D : List Dt) (L' : Dt) (D' : List Dt) : Option Bool := match eqD L L' with
  | some (.bool true) => (match eqD (.list D) (.list D') with
    | some (.bool k) => some k
    | _ => none)
  | some (.bool false) => some false
  | _ => none
def spE (K : PySem.W.Frag) : Sp := fun vs H Q _ => ∃ F a p q L D U y, vs = [.ref a, y] ∧ Same F H ∧ TabsF (tabsOf K) F H ∧ SesAt K F H a p q L D U ∧
  ((∃ b p' q' L' D' U', y = .ref b ∧ SesAt K F H b p' q' L' D' U' ∧ match eqS L D L' D' with
    | some k => ∀ F' H', Gr0 K F H F' H' → Q (.bl k) H'
    | none => False) ∨ (∃ t, TyX K H y (.type t) ∧ (t = "list" ∨ t = "str") ∧ ∀ F' H', Gr0 K F H F' H' → Q (.bl false) H'))
/-! try: r = f(..) / except LadderError as e: c = e, as it is read -/
section
variable {X : Cx} {e : Expr} {es : List Expr} {p pos pos1 pos2 pos3 pos' np q1 q2 q3 : Pos} {k jr jc ie : Nat} {f : Addr} {fd : FuncData} {ps : List Str} {x nr nc ne : Str} {sp : Sp} {t : TA}
abbrev wTry (K : PySem.W.Frag) (ie jc : Nat) (D : Ends) : WX := wKp K (.ref (He.ga K "LadderError")) ie (fun _ _ => tAsg (tVar ie) (gName jc)) (fun _ _ _ _ => False) D
theorem ps_tryO (EF : ExF X.K X.mg) (hs : X.stack = X.env :: X.outer) (hf : X.env.frame = some X.env.locals) (hex : X.ex = []) (hN : X.N.Nodup) (hir : X.N[jr]? = some nr) (hic : X.N[jc]? = some nc) (hie : X.N[ie]? = some ne)
    (hlr : Loc X.env.scope nr) (hlc : Loc X.env.scope nc) (hln : X.env.kindOf ne = some .local) (hgL : Gl X "LadderError")
    (F : FnOk X.prog X.w X.K X.mg X.base (L2.CX X.prog X.w) k f fd ps sp) (hr : Room k X.A) (hg : Gl X x) (hm : X.mg x = some (.ref f)) (hk : PySem.W.keepIn X.K (.ref f) = true) (hb : Binds X.K fd ps [])
    (ha : ∀ (pn : List (Addr × Obj)) (xe : Value → Shared → Prop), PA (X.tr pn xe) (e :: es) t)
    (hve : ∀ (a : Addr) (oe : Obj) (pn : List (Addr × Obj)), PE (X.suite a ((a, oe) :: pn)) (.Name ne q2) (tVar ie))
    (hsw : swapsWith (.Call (.Name x p) (e :: es) [] pos1) (some (.Name nr q1)) pos2.line X.env = pure false := by rfl) (hsw2 : swapsWith (.Name ne q2) (some (.Name nc q3)) pos3.line X.env = pure false := by rfl)
    (hfr : X.fn nr = true ∨ X.env.scope.names.lookup nr = some .local := by first | exact .inl rfl | exact .inr rfl | assumption) (hfc : X.fn nc = true ∨ X.env.scope.names.lookup nc = some .local := by first | exact .inl rfl | exact .inr rfl | assumption)
    (hdb : (x == ("__debug__" : Str)) = false := by decide) (he : starEach (e :: es) X.env = (false, eval e X.env) :: starEach es X.env := by rfl) (hpl : (backTo pos1 (starEach es X.env)).any (·.1) = false := by rfl) :
    PS X (.Try [.Assign [.Name nr q1] (.Call (.Name x p) (e :: es) [] pos1) pos2] [.ExceptHandler (some (.Name "LadderError" np)) (some ne) [.Assign [.Name nc q3] (.Name ne q2) pos3] pos'] [] [] pos)
      (fun D σ H => tAsg (tCallS sp (WE (wTry X.K ie jc D)) t) (gName jr) D σ H) :=
  ps_try_keep (X := X) (x := "LadderError") (n := ne) (c := .ref (He.ga X.K "LadderError")) (i := ie) (np := np) (pos := pos) (pos' := pos') (Wout := fun _ _ _ _ => False) (body := [.Assign [.Name nr q1] (.Call (.Name x p) (e :: es) [] pos1) pos2]) (b₀ := .Assign [.Name nc q3] (.Name ne q2) pos3) (suite := [])
    (tb := fun W => tAsg (tCallS sp (WE W) t) (gName jr)) (ts := fun a cls => tAsg (tVar ie) (gName jc))
    hs hf hex hN hie hln ⟨hgL, by decide, .inl EF.top⟩ (fun u s' ⟨a, B, sI, pins, σ, H, cls, d, e, I, nb, up, sky, na, os, ag, w⟩ => w.elim)
    (fun W pn xe tw po => pss_one (ps_set (X := X.tr pn xe) hN hir hlr (pe_callS (X := X.tr pn xe) (E := WE W) F hr hg hm hk hb (passAt tw) (ha pn xe) hdb he hpl) hsw hfr))
    (fun a oe cls pn => pss_one (ps_set (X := X.suite a ((a, oe) :: pn)) hN hic hlc (hve a oe pn) hsw2 hfc))
end
end Sx

namespace Sx
open PySem PySem.Spec PyProof.Rows L2
/-! ### sessions in a law: len, str, ==, outcomes; own lists that are lent to a call -/
def eLenS (i : Nat) (Fs : Dt → List Dt → List Dt → Res Dt) : SE := fun ρ W => match ρ[i]? with
  | some (some (.se L D U)) => (match Fs L D U with
    | .ok (.int n) => if 0 ≤ n ∧ n < 2 ^ 63 then .ok (.int n, W) else .bad
    | _ => .bad)
  | _ => .bad
def eStrS (i : Nat) (Fs : Dt → List Dt → List Dt → Res Dt) : SE := fun ρ W => match ρ[i]? with
  | some (some (.se L D U)) => (match Fs L D U with
    | .ok (.str y) => .ok (.str y, W)
    | _ => .bad)
  | _ => .bad
def eEqS (i j : Nat) : SE := fun ρ W => match ρ[i]?, ρ[j]? with
  | some (some (.se L D _)), some (some (.se L' D' _)) => (match eqS L D L' D' with
    | some k => .ok (.bool k, W)
    | none => .bad)
  | _, _ => .bad
def eNeSS (i j : Nat) : SE := fun ρ W => match ρ[i]?, ρ[j]? with
  | some (some (.se L D _)), some (some (.se L' D' _)) => (match eqS L D L' D' with
    | some k => .ok (.bool (!k), W)
    | none => .bad)
  | _, _ => .bad
section
variable {X : Cx} {XE : Str → Hp → Prop} {e a b c : Expr} {es : List Expr} {pos p pt p2 apos : Pos} {fa fe f1 f2 : SE} {ga : SA} {k n i j : Nat} {f : Addr} {fd : FuncData} {ps : List Str} {x y t m : Str}
theorem d_strS {Fs : Dt → List Dt → List Dt → Res Dt} (hs : Meth X.K (SC X.K) "__str__" f) (Fo : FnOk X.prog X.w X.K X.mg X.base CX0 k f fd ps (spQ X.K Fs)) (hr : Room (k + 2) X.A) (hb : Binds X.K fd ps []) (hg : Gl X "str") (hm : X.mg "str" = none) (hv : PE X (.Name x p2) (tVar i))
    (he : starEach [.Name x p2] X.env = (false, eval (.Name x p2) X.env) :: starEach [] X.env := by rfl) (hpl : (backTo pos (starEach [] X.env)).any (·.1) = false := by rfl) :
    PE X (.Call (.Name "str" p) [.Name x p2] [] pos) (tE X.K XE (eStrS i Fs)) := by
  refine (pe_callTy (call_strO hs Fo hr hb pass0) hg hm (by decide +kernel) (pa_cons hv pa_nil he) (by decide) (by decide) he hpl).weak fun σ H Q ⟨G, ρ, W, F, R, q⟩ => ?_
  unfold eStrS at q
  split at q
  · rename_i L D U hsl
    obtain ⟨v, h1, a, p', q', rfl, hf, s⟩ := R.sl i _ hsl
    have hn : ∀ x ∈ [a, p', q'], F x = none := fun x hx => (R.fr i x (by rw [hf]; exact hx)).1
    obtain ⟨dx, vL, vD, vU, k1, k2⟩ := id s
    refine ⟨_, h1, a, dx, _, rfl, k1, F, a, p', q', L, D, U, rfl, R.fh, R.tb, s, ⟨hn _ (by simp), hn _ (by simp), hn _ (by simp)⟩, ?_⟩
    split at q
    · rename_i y hF
      rw [hF]
      intro v F' H' g hv
      cases hv
      exact ⟨y, rfl, q _ F' H' g.ff (R.grow g) (.str y)⟩
    · exact q.elim
  · exact q.elim
end
end Sx

namespace Sx
open PySem PySem.Spec PyProof.Rows L2
/-! ### a list under a second name: what is undone or redone goes from one list to the other -/
section
variable {X : Cx} {XE : Str → Hp → Prop} {iw id iu is idu js jt : Nat} {c3 : SXB} {Fr : List Dt → Res Dt}
end
def ME (P : Program) (w : World) (K : PySem.W.Frag) (mg : Str → Option Value) (base : Heap) (k : Nat) : Prop :=
  ∃ f fd, Meth K (SC K) "__eq__" f ∧ FnOk P w K mg base CX0 k f fd ["self", "other"] (spE K) ∧ Binds K fd ["self", "other"] []
theorem exZES_z {K : PySem.W.Frag} (h : exZES K = true) : exZE K = true := (Bool.and_eq_true_iff.mp h).1
theorem exZES_s {K : PySem.W.Frag} (h : exZES K = true) : SesD K := exSd_ok (Bool.and_eq_true_iff.mp h).2
end Sx

namespace PySem.W
open PySem.Builtin PySem PyProof.Rows
section
variable {prog : Program} {w : World} {A : Around} {E : Value → Shared → Prop} {s : Shared}
/-- first, *rest from a list -/
theorem sx_star1 {l : Addr} {items : Array Value} {Q : List Value → Shared → Prop} (hh : A.handled = none) (hl : s.heap.IsList l items) (h1 : 1 ≤ items.size) (hz : items.size ≤ 16384)
    (h : ∀ (h' : Heap) (tk : Nat), (∀ b o, s.heap.get? b = some o → h'.get? b = some o) → Q (items.toList.take 1 ++ [.ref h'.objs.size]) { s with heap := h'.push { cls := .type "list", data := .seq (items.toList.drop 1).toArray }, toks := tk }) : wpAny (model prog w) A (unpackItems (.ref l) 2 (some 1)) Q E s := by
  have hlt : l ≠ s.heap.objs.size := by obtain ⟨o, ho, _⟩ := hl; exact Nat.ne_of_lt (Heap.lt_size ho)
  unfold unpackItems
  refine wpAny_bind ?_
  unfold notIterableAtAll
  refine wpAny_bind (wpAny_specialOf hl.typeIs slot_list_iter.lookup ?_)
  refine wpAny_pure ?_
  simp only [Bool.false_eq_true, if_false]
  refine wpAny_bind (wpAny_holding (wpAny_pyIter_list hl ?_))
  refine wpAny_bind (wpAny_holding (kun_draw hlt 1 0 _ _ ⟨_, Heap.get?_push_size _ rfl, rfl, rfl⟩ (hl.push _) (by omega) fun h₁ hit₁ hs₁ => ?_))
  have hl₁ : h₁.IsList l items := (hl.push _).extBut hs₁.extBut hlt
  rw [Nat.zero_add] at hit₁
  have hit₁' := hit₁
  obtain ⟨oi, hoi, _⟩ := hit₁'
  have hl₁' := hl₁
  obtain ⟨ol, hol, _⟩ := hl₁'
  rw [List.drop_zero]
  have hfl : (items.toList.take 1).length = 1 := by rw [List.length_take, Array.length_toList]; omega
  rw [if_neg (show ¬ ((items.toList.take 1).length < 1) by rw [hfl]; omega)]
  refine wpAny_bind (wpAny_holding (kun_collect (s := { s with heap := h₁ }) (T := "list_iterator") (.inr (.inr (.inl rfl))) (Walks.list (A := A.in1) hh s.heap.objs.size l hlt items) (fun j u st => st.1.typeIs) (k := 1) (by omega) ⟨hit₁, hl₁⟩ (Heap.lt_size hoi) (Heap.lt_size hol) (fun h₂ tk hk => ?_) (by rw [sizeLine_eq]; omega)))
  have hrl : (items.toList.drop 1).length = items.size - 1 := by rw [List.length_drop, Array.length_toList]
  show wpAny _ _ (if (items.toList.drop 1).length < 0 then _ else _) _ _ _
  rw [if_neg (by omega)]
  show wpAny _ _ (newList ((items.toList.drop 1).take ((items.toList.drop 1).length - 0)) >>= fun d => pure (items.toList.take 1 ++ [d] ++ (items.toList.drop 1).drop ((items.toList.drop 1).length - 0))) _ _ _
  rw [Nat.sub_zero, List.take_length, List.drop_length]
  refine wpAny_bind (wpAny_newList (wpAny_pure ?_) (by rw [hrl, sizeLine_eq]; omega))
  rw [List.append_nil]
  exact h h₂ tk fun b o e => hk b o (Nat.ne_of_lt (Heap.lt_size e)) (hs₁.extBut b o (Nat.ne_of_lt (Heap.lt_size e)) (Heap.get?_push_of_some _ e))
end
end PySem.W
namespace L2
open PySem PySem.Spec PyProof.Rows
def gStar (K : PySem.W.Frag) (t : TGs) : TG := fun v σ H Q => ∃ a x xs, v = .ref a ∧ SqL K H a (x :: xs) ∧ xs.length ≤ 16000 ∧ ∀ p, H p = none → t [x, .ref p] σ (upd H p (.lst xs)) Q
section
variable {X : Cx} {pos : Pos}
theorem pg_star {es es' : List Expr} {k : Nat} {t : TGs} (hc : X.calm = true) (h : PGs X es' t)
    (hm : (assignEach es X.env).map (·.2) = (assignEach es' X.env).map (·.2) := by rfl)
    (hn : (assignEach es X.env).length = 2 := by rfl) (hst : (assignEach es X.env).findIdx? (·.1) = some 1 := by rfl) : PG X (.Tuple es k pos) (gStar X.K t) := by
  refine ⟨fun pins s σ H v u Q I r hw => ?_⟩
  obtain ⟨a, x, xs, e1, hq, hl, hw⟩ := hw
  subst e1
  cases r
  obtain ⟨its, rv, pl, hz⟩ := I.list hq
  rw [PyProof.Rows.assign_Tuple]
  refine wpAny_bind (wpAny_standAt ?_)
  unfold unpack
  rw [hn, hst, hm]
  cases rv with
  | @cons _ y _ ys r1 r2 =>
    have hys : ys.length = xs.length := r2.length.symm
    refine wpAny_bind (wpAny_holding (PySem.W.sx_star1 (I.ok.hd hc) pl.isList (by simp) (by simp; omega) fun h' tk hk => ?_))
    have I1 : Inv X pins σ H { s with heap := h', toks := tk } := I.kept (t' := tk) hk
    have hf : H h'.objs.size = none := I1.hok.fresh (Nat.le_refl _)
    have hsz : xs.length ≤ sizeLine := Nat.le_trans hl (by decide)
    have I2 : Inv X pins σ (upd H h'.objs.size (.lst xs)) { s with heap := h'.push { cls := .type "list", data := .seq ys.toArray }, toks := tk } :=
      I1.laid (t' := tk) (fun b u e => Heap.get?_push_of_some _ e) (Nat.le_refl _) ⟨hsz, ys, 0, r2, Heap.get?_push_size _ rfl⟩
    exact h.run pins _ σ _ [x, .ref h'.objs.size] _ Q I2 (.cons r1 (.cons rfl .nil)) (hw _ hf)
/-- x += e of ints: behind it a token is out -/
theorem pss_augT {i : Nat} {x : Str} {e : Expr} {te : TE} {pos' : Pos} {rest : List Stmt} {u : TS} (hN : X.N.Nodup) (hi : X.N[i]? = some x) (hx : Loc X.env.scope x) (he : PE X e te) (h2 : PSsT X rest u) (hf : X.fn x = true ∨ X.env.scope.names.lookup x = some .local := by first | exact .inl rfl | exact .inr rfl | assumption) :
    PSs X (.AugAssign (.Name x pos') .Add e pos :: rest) (tSeq (tAug i te (ipI fun i j => i + j)) u) := by
  refine ⟨fun pins s σ H D I h => ?_⟩
  obtain ⟨v, e1, h⟩ := h
  obtain ⟨m, hn, hl⟩ := I.loc
  have vis : Vis X.env.scope x := by rcases hx with k | k; exact .inl k; exact .inr (.inl k)
  obtain ⟨uu, r, l⟩ := hl i x v hi e1 vis
  refine wpAny_execs_cons (wpAny_AugAssign_Name ?_)
  have go : wpAny (model X.prog X.w) X.A (eval e X.env) (fun w s₂ => wpAny (model X.prog X.w) X.A (inplaceOp .Add uu w) (fun r s₃ => wpAny (model X.prog X.w) X.A (storeName X.env x r) (fun _ s4 => wpAny (model X.prog X.w) X.A (execs rest X.env) (SP X pins D) X.xe s4) X.xe s₃) X.xe s₂) X.xe s := by
    refine thn (he.run pins s σ H _ I h) fun w s1 ⟨y, H1, I1, r1, q1⟩ => ?_
    obtain ⟨a, b, rfl, rfl, q⟩ := q1
    obtain ⟨t, rfl⟩ := r
    obtain ⟨t', rfl⟩ := r1
    refine iadd_int ?_
    refine wpAny_mono (PySem.wpAny_toks (store_ok (v := V.int (a + b)) (u := Value.int (a + b) s1.toks) (Q := fun _ s2 => Inv X pins (σ.set i (some (V.int (a + b)))) H1 s2) (I1.tok (s1.toks + 1)) hN hi hx ⟨s1.toks, rfl⟩ (fun _ I2 => I2) hf)) (fun _ s2 q2 => ?_) fun _ _ z => z.2
    have hk : s1.toks + 1 ≤ s2.toks := q2.1
    exact h2 pins s2 _ H1 D (by omega) q2.2 q
  rcases l with ⟨hk, hm⟩ | ⟨hk, c, hc, hcell⟩
  · exact wpAny_loadName_local I.ok.kind hk hn hm go
  · rcases hk with hk | hk
    · exact wpAny_loadName_cell I.ok.kind hk hc hcell go
    · rcases hx with k | k
      · have : X.env.scope.names.lookup x = some .free := hk
        rw [k] at this; cases this
      · have : X.env.scope.names.lookup x = some .free := hk
        rw [k] at this; cases this
theorem pet_m1 {o e : Expr} {to te : TE} {id : String} {name : Str} {apos pos : Pos} {r : V → List V → Hp → VK → Prop} (slot : Slot "str" name id) (ty : typeOf (.builtin id) = pure (.type "method_descriptor")) (rule : MtR X id r) (ho : PET X o to) (he : PE X e te)
    (hs : starEach [e] X.env = [(false, eval e X.env)] := by rfl) (hbase : attributeBase o name X.env (eval o X.env) = eval o X.env := by rfl) (hline : (apos.endLine == pos.line) = true := by rfl) :
    PET X (.Call (.Attribute o name apos) [e] [] pos) (tM1 r to te) := by
  intro pins s σ H Q h0 I h
  refine PySem.Call_method1 hbase hs hline (thn (ho pins s σ H _ h0 I h) fun v s1 ⟨x, H1, I1, r1, q1⟩ => ?_)
  obtain ⟨⟨a, rfl⟩, q1⟩ := q1
  obtain ⟨t, rfl⟩ := _root_.id r1
  refine ⟨"str", _, F.plainAttrs_str, slot, ty, typeIs_str _ _ _, (fun _ e => nomatch e), Calls.callWith_builtin rfl (Calls.evalArgs_plain (Calls.spliced_cons ?_))⟩
  exact thn (he.run pins s1 σ H1 _ I1 q1) fun u s2 ⟨y, H2, I2, r2, q2⟩ => Calls.spliced_nil (rule pins s2 σ H2 _ [y] _ [u] Q I2 r1 (.cons r2 .nil) q2)
theorem pst_asg {tg e : Expr} {te : TE} {g : TG} (he : PET X e te) (hg : PG X tg g) (hs : swapsWithSole [tg] e pos.line X.env = pure false := by rfl) (hw : swappedStores [tg] e X.env = pure none := by rfl)
    (h1 : (assignEach [tg] X.env).map (·.2) = [assign tg X.env] := by rfl) : PST X (.Assign [tg] e pos) (tAsg te g) := by
  intro pins s σ H D h0 I h
  refine wpAny_Assign_stores (thn (he pins s σ H _ h0 I h) fun v s1 ⟨x, H1, I1, r1, q1⟩ => ?_) hs hw
  rw [h1]
  exact thn (hg.run pins s1 σ H1 x v _ I1 r1 q1) fun _ s2 q => q
theorem PET.weak {e : Expr} {t t' : TE} (h : PET X e t) (w : ∀ σ H Q, t' σ H Q → t σ H Q) : PET X e t' := fun pins s σ H Q h0 I hq => h pins s σ H Q h0 I (w σ H Q hq)
theorem PST.weak {st : Stmt} {t t' : TS} (h : PST X st t) (w : ∀ D σ H, t' D σ H → t D σ H) : PST X st t' := fun pins s σ H D h0 I hq => h pins s σ H D h0 I (w D σ H hq)
theorem PSsT.weak {st : List Stmt} {t t' : TS} (h : PSsT X st t) (w : ∀ D σ H, t' D σ H → t D σ H) : PSsT X st t' := fun pins s σ H D h0 I hq => h pins s σ H D h0 I (w D σ H hq)
end
end L2

namespace Sx
open PySem PySem.Spec PyProof.Rows L2
/-! ### saved sessions: lent sessions, reversed lists, replace, starred targets -/
def eFldL (i : Nat) : SE := fun ρ W => match ρ[i]? with
  | some (some (.sl L _ _)) => .ok (L, W)
  | _ => .bad
def eFldD (i : Nat) : SE := fun ρ W => match ρ[i]? with
  | some (some (.sl _ D _)) => .ok (.list D, W)
  | _ => .bad
def eFldU (i : Nat) : SE := fun ρ W => match ρ[i]? with
  | some (some (.sl _ _ U)) => .ok (.list U, W)
  | _ => .bad
def lRev (e : SE) : SA := fun ρ W => (e ρ W).bind fun p => match p.1 with
  | .list ds => .ok (ds.reverse, p.2)
  | _ => .bad
def replD (y z : Str) : Dt → Option Dt
  | .str x => if x.length + (x.length + 1) * z.length ≤ 90000 then some (.str (Txt.replace x y z)) else none
  | _ => none
def gLs (n : Nat) (gs : SGs) : SG := fun d ρ => match d with
  | .list ds => if ds.length = n then gs ds ρ else none
  | _ => none
def sStar (i j : Nat) (f : SA) : SS := fun ρ W => rOut (f ρ W) fun ds W1 => match ds with
  | d :: rest => if i < ρ.length ∧ j < ρ.length ∧ rest.length ≤ 16000 then .nx ((ρ.set i (some (.d d))).set j (some (.d (.list rest)))) W1 else .bad
  | [] => .bad
def sAug (i : Nat) (fe : SE) : SS := fun ρ W => match ρ[i]? with
  | some (some (.d (.int a))) => rOut (fe ρ W) fun d W1 => match d with
    | .int b => .nx (ρ.set i (some (.d (.int (a + b))))) W1
    | _ => .bad
  | _ => .bad
def sRetS (i : Nat) : SS := fun ρ W => match ρ[i]? with
  | some (some (.se L D U)) => .rt (.se L D U) W
  | _ => .bad
theorem DqAll.rev {K : PySem.W.Frag} {F : Hp} : ∀ {vs : List V} {ds : List Dt}, DqAll K F vs ds → DqAll K F vs.reverse ds.reverse
  | _, _, .nil => .nil
  | _, _, .cons h t => by
    rw [List.reverse_cons, List.reverse_cons]
    exact (DqAll.rev t).append (.one h)
section
variable {X : Cx} {XE : Str → Hp → Prop} {e a b o : Expr} {es : List Expr} {pos p apos : Pos} {fa fb fe : SE} {ga fl : SA} {i j : Nat} {x : Str} {st : Stmt} {sts : List Stmt}
theorem d_fldL (C : SesC X.K) (hv : PE X (.Name x p) (tVar i)) (hb : attributeBase (.Name x p) "ladder" X.env (eval (.Name x p) X.env) = eval (.Name x p) X.env := by rfl) : PE X (.Attribute (.Name x p) "ladder" pos) (tE X.K XE (eFldL i)) := by
  refine (pe_fld hv hb).weak fun σ H Q ⟨G, ρ, W, F, R, q⟩ => ?_
  unfold eFldL at q
  split at q
  · rename_i L D U hs
    obtain ⟨v, h1, a, p', q', dx, vL, rfl, h2, h3, h4, h5⟩ := R.sl i _ hs
    exact ⟨_, h1, a, SC X.K, dx, _, _, rfl, R.fh _ _ h2, C.cl, C.nL, sesF_L, q _ F H (.refl _) R h3⟩
  · exact q.elim
theorem d_fldD (C : SesC X.K) (hv : PE X (.Name x p) (tVar i)) (hb : attributeBase (.Name x p) "done" X.env (eval (.Name x p) X.env) = eval (.Name x p) X.env := by rfl) : PE X (.Attribute (.Name x p) "done" pos) (tE X.K XE (eFldD i)) := by
  refine (pe_fld hv hb).weak fun σ H Q ⟨G, ρ, W, F, R, q⟩ => ?_
  unfold eFldD at q
  split at q
  · rename_i L D U hs
    obtain ⟨v, h1, a, p', q', dx, vL, rfl, h2, h3, h4, h5⟩ := R.sl i _ hs
    exact ⟨_, h1, a, SC X.K, dx, _, _, rfl, R.fh _ _ h2, C.cl, C.nD, sesF_D, q _ F H (.refl _) R h4⟩
  · exact q.elim
theorem d_fldU (C : SesC X.K) (hv : PE X (.Name x p) (tVar i)) (hb : attributeBase (.Name x p) "undone" X.env (eval (.Name x p) X.env) = eval (.Name x p) X.env := by rfl) : PE X (.Attribute (.Name x p) "undone" pos) (tE X.K XE (eFldU i)) := by
  refine (pe_fld hv hb).weak fun σ H Q ⟨G, ρ, W, F, R, q⟩ => ?_
  unfold eFldU at q
  split at q
  · rename_i L D U hs
    obtain ⟨v, h1, a, p', q', dx, vL, rfl, h2, h3, h4, h5⟩ := R.sl i _ hs
    exact ⟨_, h1, a, SC X.K, dx, _, _, rfl, R.fh _ _ h2, C.cl, C.nU, sesF_U, q _ F H (.refl _) R h5⟩
  · exact q.elim
theorem l_rev {k : Nat} {p1 p2 p3 : Pos} (he : PE X e (tE X.K XE fe)) : PE X (.Subscript e (.Slice none none (some (.UnaryOp .USub (.Constant (.int 1) k p1) p2)) p3) pos) (tL X.K XE (lRev fe)) := by
  refine (pe_revL he).weak fun σ H Q ⟨G, ρ, W, F, R, q⟩ => ⟨G, ρ, W, F, R, q.of_bind.mono fun d W1 q v F1 H1 s1 R1 hv => ?_⟩
  cases d with
  | list ds =>
    cases hv with
    | lst h1 h2 =>
      refine ⟨_, _, rfl, R1.fh.seq h1, fun np hp => ?_⟩
      exact q np _ F1 _ s1 (R1.grow (.newH R1.fh hp)) (R1.fresh hp) upd_same (R1.fh.free hp) h2.rev
  | _ => exact q.elim
theorem l_splitT (ho : PET X o (tE X.K XE fa)) (he : PE X e (tE X.K XE fb)) (hs : starEach [e] X.env = [(false, eval e X.env)] := by rfl) (hbase : attributeBase o "split" X.env (eval o X.env) = eval o X.env := by rfl) (hline : (apos.endLine == pos.line) = true := by rfl) :
    PET X (.Call (.Attribute o "split" apos) [e] [] pos) (tL X.K XE (lTm splitD fa fb)) := by
  refine PET.weak (pet_m1 (r := fun x xs H Q => ∃ a b, x = .str a ∧ xs = [.str b] ∧ (b.length == 0) = false ∧ a.length + 2 ≤ sizeLine ∧ rNewStrs (Txt.split a b) H Q) F.slot_str_split F.type_str_split mt_split ho he hs hbase hline) fun σ H Q ⟨G, ρ, W, F, R, q⟩ => ?_
  refine ⟨G, ρ, W, F, R, q.of_bind.mono fun d W1 q v F1 H1 s1 R1 hv => ?_⟩
  obtain ⟨hi, q'⟩ := Pg.of_ite q
  clear q
  have q := q'
  clear q'
  cases d <;> try (cases hi; done)
  rename_i z
  cases hv
  refine ⟨⟨z, rfl⟩, G, ρ, W1, F1, R1, q.of_bind.mono fun d W2 q v F2 H2 s2 R2 hv => ?_⟩
  obtain ⟨zs, hz, q'⟩ := q.of_ofO
  clear q
  have q := q'
  clear q'
  cases d <;> simp only [splitD] at hz <;> try (cases hz; done)
  rename_i y
  cases hv
  split at hz
  · rename_i hc
    cases hz
    refine ⟨z, y, rfl, rfl, by simp only [beq_eq_false_iff_ne]; exact hc.1, Nat.le_trans (Nat.add_le_add_right hc.2 2) (by decide), fun p hp => ?_⟩
    have g : Gr0 X.K F2 H2 F2 (upd H2 p (.lst ((Txt.split z y).map V.str))) := .newH R2.fh hp
    exact q p _ F2 _ (s1.trans s2) (R2.grow g) (R2.fresh hp) upd_same (R2.fh.free hp) (dq_strs _)
  · cases hz
theorem d_repl {y z : Str} {k l : Nat} {c0 c1 : Pos} (ho : PE X o (tE X.K XE fa)) (hyz : (y == z) = false := by decide)
    (hst : starEach [.Constant (.str y) k c0, .Constant (.str z) l c1] X.env = [(false, eval (.Constant (.str y) k c0) X.env), (false, eval (.Constant (.str z) l c1) X.env)] := by rfl)
    (hbase : attributeBase o "replace" X.env (eval o X.env) = eval o X.env := by rfl) (hline : (apos.endLine == pos.line) = true := by rfl) :
    PET X (.Call (.Attribute o "replace" apos) [.Constant (.str y) k c0, .Constant (.str z) l c1] [] pos) (tE X.K XE (eUn (replD y z) fa)) := by
  refine PET.weak (CwR.pet_replC ho hyz hst hbase hline) fun σ H Q ⟨G, ρ, W, F, R, q⟩ => ?_
  refine ⟨G, ρ, W, F, R, q.of_bind.mono fun d W1 q v F1 H1 s1 R1 hv => ?_⟩
  obtain ⟨r, hr, q'⟩ := q.of_ofO
  clear q
  have q := q'
  clear q'
  cases d <;> simp only [replD] at hr <;> try (cases hr; done)
  rename_i xx
  cases hv
  split at hr
  · rename_i hc
    cases hr
    exact ⟨xx, rfl, Nat.le_trans hc (by decide), q _ F1 H1 s1 R1 (.str _)⟩
  · cases hr
theorem g_lst {es : List Expr} {k : Nat} {is : List Nat} {gs : SGs} {n : Nat} (hc : X.calm = true) (h : PGs X es (tGs X.K is gs))
    (hn : (assignEach es X.env).length = n := by rfl) (hst : (assignEach es X.env).findIdx? (·.1) = none := by rfl) : PG X (.Tuple es k pos) (tG Dq X.K is (gLs n gs)) := by
  refine (pg_lst hc h hn hst).weak fun v σ H Q ⟨G, ρ, W, F, d, ρ', R, hv, hg, q⟩ => ?_
  cases d <;> simp only [gLs] at hg <;> try (cases hg; done)
  split at hg
  · rename_i hl
    cases hv with
    | lst h1 h2 => exact ⟨_, _, rfl, R.fh.seq h1, by rw [h2.length]; exact hl, G, ρ, W, F, _, ρ', R, h2, hg, q⟩
  · cases hg
theorem s_asgGT {is : List Nat} {g : SG} (h : PST X st (tAsg (tE X.K XE fe) (tG Dq X.K is g))) : PST X st (tS X.K XE (sAsgG g fe)) :=
  PST.weak h fun D σ H ⟨G, ρ, W, F, R, p⟩ => ⟨G, ρ, W, F, R, p.of_rOut.mono fun d W1 q v F1 H1 s1 R1 hv => by
    split at q
    · rename_i ρ' hg
      exact ⟨G, ρ, W1, F1, d, ρ', R1, hv, hg, fun _ σ' _ _ R2 => q G σ' F1 H1 (.refl _) s1 R2⟩
    · exact q.elim⟩
theorem as_frzT {g : TG} (h : PST X st (tAsg (tL X.K XE ga) g)) : PST X st (tAsg (tE X.K XE (eFrz ga)) g) := PST.weak h fun _ _ _ => frz_of
theorem s_consT {sa sb : SS} (h1 : PST X st (tS X.K XE sa)) (h2 : PSsT X sts (tS X.K XE sb)) : PSsT X (st :: sts) (tS X.K XE (sSeq sa sb)) := by
  refine PSsT.weak (psst_cons h1 h2) fun D σ H ⟨G, ρ, W, F, R, p⟩ => ⟨G, ρ, W, F, R, ?_⟩
  unfold sSeq at p
  cases hf : sa ρ W with
  | nx ρ1 W1 =>
    rw [hf] at p
    exact fun G1 σ1 F1 H1 b1 s1 R1 => ⟨G1, ρ1, W1, F1, R1, p.shift b1 s1⟩
  | rt r W1 => rw [hf] at p; exact p
  | rs r ρ1 W1 => rw [hf] at p; exact p
  | exc c => rw [hf] at p; exact p
  | bad => rw [hf] at p; exact p
theorem s_oneT {sa : SS} (h : PST X st (tS X.K XE sa)) : PSsT X [st] (tS X.K XE sa) := CwR.psst_one h
theorem s_augT {sb : SS} {pos' : Pos} (hN : X.N.Nodup) (hi : X.N[i]? = some x) (hx : Loc X.env.scope x) (he : PE X e (tE X.K XE fe)) (h2 : PSsT X sts (tS X.K XE sb)) (hf : X.fn x = true ∨ X.env.scope.names.lookup x = some .local := by first | exact .inl rfl | exact .inr rfl | assumption) :
    PSs X (.AugAssign (.Name x pos') .Add e pos :: sts) (tS X.K XE (sSeq (sAug i fe) sb)) := by
  refine (pss_augT hN hi hx he h2 hf).weak fun D σ H ⟨G, ρ, W, F, R, p⟩ => ?_
  have p : Po X.K XE G F (match sAug i fe ρ W with | .nx ρ1 W1 => sb ρ1 W1 | r => r) D := p
  cases hs : ρ[i]? with
  | none => rw [show sAug i fe ρ W = .bad by unfold sAug; rw [hs]] at p; exact p.elim
  | some o =>
    by_cases hd : ∃ a, o = some (.d (.int a))
    · obtain ⟨a, rfl⟩ := hd
      have hil : i < ρ.length := (List.getElem?_eq_some_iff.mp hs).1
      obtain ⟨v, h1, hv⟩ := R.sl i _ hs
      have hv : Dq X.K F v (.int a) := hv
      cases hv
      have e0 : sAug i fe ρ W = rOut (fe ρ W) fun d W1 => match d with
        | .int b => .nx (ρ.set i (some (.d (.int (a + b))))) W1
        | _ => .bad := by unfold sAug; rw [hs]
      rw [e0] at p
      refine ⟨_, h1, G, ρ, W, F, R, ?_⟩
      cases hfe : fe ρ W with
      | ok r =>
        obtain ⟨d, W1⟩ := r
        rw [hfe] at p
        simp only [rOut_ok] at p
        intro y F1 H1 s1 R1 hy
        cases d with
        | int b =>
          cases hy
          exact ⟨a, b, rfl, rfl, G, _, W1, F1, R1.setD hil (.int (a + b)), Po.shift p (.refl _) s1⟩
        | _ => exact p.elim
      | exc c => rw [hfe] at p; exact p
      | bad => rw [hfe] at p; exact p.elim
    · have e0 : sAug i fe ρ W = .bad := by
        unfold sAug
        rw [hs]
        split
        · rename_i a he
          exact absurd ⟨a, Option.some.inj he⟩ hd
        · rfl
      rw [e0] at p
      exact p.elim
theorem s_star (h : PS X st (tAsg (tL X.K XE fl) (gStar X.K (gCons (gName i) (gCons (gName j) gNil))))) : PS X st (tS X.K XE (sStar i j fl)) :=
  h.weak fun D σ H ⟨G, ρ, W, F, R, p⟩ => ⟨G, ρ, W, F, R, p.of_rOut.mono fun ds W1 q np vs F1 H1 s1 R1 fr hp hF hv => by
    cases hv with
    | nil => exact q.elim
    | @cons v vs d ds hv hvs =>
      obtain ⟨⟨hi, hj, hl⟩, q⟩ := Po.of_ite q
      refine ⟨np, v, vs, rfl, SqL.of hp, by rw [hvs.length]; exact hl, fun rp hrp => ?_⟩
      have g : Gr0 X.K F1 H1 F1 (upd H1 rp (.lst vs)) := .newH R1.fh hrp
      have R2 := (R1.grow g).freeze upd_same (R1.fh.free hrp) (R1.fresh hrp)
      have sF : Same F1 (upd F1 rp (.lst vs)) := same_new (R1.fh.free hrp)
      have R3 := R2.setD hi (hv.mono sF)
      have R4 := R3.setD (i := j) (v := .ref rp) (d := .list ds) (by rw [List.length_set]; exact hj) (.lst (.inl (.inl upd_same)) (hvs.mono sF))
      exact ⟨_, _, rfl, _, _, rfl, rfl, q G _ _ _ (.refl _) (s1.trans sF) R4⟩⟩
theorem s_retS (he : PE X e (tVar i)) : PS X (.Return (some e) pos) (tS X.K XE (sRetS i)) :=
  (ps_ret he).weak fun D σ H ⟨G, ρ, W, F, R, p⟩ => by
    unfold sRetS at p
    split at p
    · rename_i L DD U hs
      obtain ⟨v, h1, a, p', q', rfl, hf, s⟩ := R.sl i _ hs
      have fr : ∀ x ∈ [a, p', q'], F x = none ∧ G.H0 x = none := fun x hx => by
        have := R.fr i x (by rw [hf]; exact hx)
        exact ⟨this.1, this.2.2.1⟩
      exact ⟨_, h1, p G ρ σ _ F H (.refl _) (.refl _) R ⟨a, p', q', rfl, ⟨(fr a (by simp)).2, (fr p' (by simp)).2, (fr q' (by simp)).2⟩, ⟨(fr a (by simp)).1, (fr p' (by simp)).1, (fr q' (by simp)).1⟩, s⟩⟩
    · exact p.elim
end
/-! ### promises: save, load -/
def runQ (m : Nat) (B : SS) (L : Dt) (D U : List Dt) : Res Dt := match B (some (.sl L D U) :: List.replicate (m - 1) none) none with
  | .rt (.d (.str z)) _ => .ok (.str z)
  | _ => .bad
def runS (m : Nat) (B : SS) (ds : List Dt) : Res SV := match B (start0 m ds) none with
  | .rt (.se L D U) _ => .ok (.se L D U)
  | .exc c => .exc c
  | _ => .bad
def spXS (K : PySem.W.Frag) (mg : Str → Option Value) (n : Nat) (Fs : List Dt → Res SV) : Sp := fun vs H Q E => ∃ F ds, Same F H ∧ TabsF (tabsOf K) F H ∧ DqAll K F vs ds ∧ ds.length = n ∧ match Fs ds with
  | .ok sv => ∀ a p q F' H', Gr0 K F H F' H' → SesV K F' H' a p q sv → (F' a = none ∧ F' p = none ∧ F' q = none) → (H a = none ∧ H p = none ∧ H q = none) → Q (.ref a) H'
  | .exc c => ∀ F' H', Gr0 K F H F' H' → XEof mg E c H'
  | .bad => False
theorem ins_code {C dx : Addr} {fs : List (Str × V)} (c : Addr) (q : Str) : HO.ins C dx fs ≠ LamX.CodeO c q := fun z => by unfold LamX.CodeO at z; cases z
section
variable {K : PySem.W.Frag} {F H F' H' : Hp} {p : Addr} {o : HO}
theorem tabs_delO {T : List (Addr × Str)} (hp : F p = some o) (nc : ∀ c q, o ≠ LamX.CodeO c q) (t : TabsF T F H) : TabsF T (delH F p) H := fun x hx => by
  obtain ⟨h0, ps, h1, h2, h3⟩ := t x hx
  refine ⟨by unfold delH; split <;> first | rfl | exact h0, ps, h1, h2, fun pos cv e => ?_⟩
  obtain ⟨c, e1, e2⟩ := h3 pos cv e
  have hne : c ≠ p := fun z => by
    subst z
    rw [hp] at e2
    exact nc c x.2 (Option.some.inj e2)
  exact ⟨c, e1, by rw [delH_ne hne]; exact e2⟩
theorem lendO_same (sm : Same F H) (hp : H p = some o) : Same (upd F p o) H := fun b u e => by
  by_cases hb : b = p
  · subst hb; rw [upd_same] at e; cases e; exact hp
  · rw [upd_ne hb] at e; exact sm b u e
theorem Gr0.unlendO (hF : F p = none) (hp : H p = some o) (nt : NT o) (nc : ∀ c q, o ≠ LamX.CodeO c q) (tb : TabsF (tabsOf K) F H) (g : Gr0 K (upd F p o) H F' H') : Gr0 K F H (delH F' p) H' where
  ff := fun b u e => by
    have hb : b ≠ p := ne_of_none e hF
    rw [delH_ne hb]
    exact g.ff b u (by rw [upd_ne hb]; exact e)
  fh := fun b u e => by
    by_cases hb : b = p
    · subst hb; unfold delH at e; rw [if_pos rfl] at e; cases e
    · rw [delH_ne hb] at e; exact g.fh b u e
  nw := fun b e => by
    by_cases hb : b = p
    · subst hb; unfold delH at e; rw [if_pos rfl] at e; exact absurd rfl e
    · rw [delH_ne hb] at e
      rcases g.nw b e with z | z
      · rw [upd_ne hb] at z; exact .inl z
      · exact .inr z
  kp := g.kp
  th := g.th
  tb := fun _ => tabs_delO (g.ff _ _ upd_same) nc (g.tb (tb.ff hF hp nt))
end
section
variable {P : Program} {w : World} {K : PySem.W.Frag} {mg : Str → Option Value} {base : Heap} {x qual : Str} {st : Stmt} {f : Addr} {fd : FuncData} {N ps : List Str} {k n : Nat} {B : SS}
theorem fn_Q (F : Fun K x qual st f fd) (S : FnScope N ps (defScope st)) (hn : ps.length = 1)
    (hb : ∀ (cdv : Value) (A : Around) (outer : List Env) (s : Shared) (H : Hp) (E : XK), Room k (A.deeper (envOfC qual (defScope st) s.heap.objs.size f cdv)) → PSs (cxOf CX0 P w K mg base N qual (defScope st) f cdv A outer s H E).nox (defBody st) (tS K X0 B)) :
    FnOk P w K mg base CX0 (k + 1) f fd ps (spQ K (runQ N.length B)) := by
  refine F.ok S (fun vs H Q E h => ?_) fun cdv A outer s H vs Q E hr h => ⟨tS K X0 B, hb cdv A outer s H E hr, ?_⟩
  · obtain ⟨Fz, a, p, q, L, D, U, rfl, _⟩ := h
    exact hn.symm
  · obtain ⟨Fz, a, p, q, L, D, U, rfl, sm, tb, se, n, hm⟩ := h
    obtain ⟨dx, vL, vD, vU, h1, h2, h3, h4, h5, h6, h7⟩ := id se
    have nap := se.nap
    have naq := se.naq
    have f1 : upd Fz p (.lst vD) q = none := by rw [upd_ne (Ne.symm h7)]; exact n.2.2
    have f2 : upd (upd Fz p (.lst vD)) q (.lst vU) a = none := by rw [upd_ne naq, upd_ne nap]; exact n.1
    have sm1 := lendO_same sm h2
    have sm2 := lendO_same sm1 h3
    have sm3 := lendO_same sm2 h1
    have tb1 := tb.ff (u := .lst vD) n.2.1 h2 nt_lst
    have tb2 := tb1.ff (u := .lst vU) f1 h3 nt_lst
    have tb3 := tb2.ff (u := .ins (SC K) dx (sesF vL p q)) f2 h1 nt_ins
    have sF : Same Fz (upd (upd (upd Fz p (.lst vD)) q (.lst vU)) a (.ins (SC K) dx (sesF vL p q))) := ((same_new n.2.1).trans (same_new f1)).trans (same_new f2)
    have hsl : SlOk K none (upd (upd (upd Fz p (.lst vD)) q (.lst vU)) a (.ins (SC K) dx (sesF vL p q))) H (.ref a) [] (.sl L D U) :=
      ⟨a, p, q, dx, vL, rfl, upd_same, h4.mono sF, .lst (.inl (.inl (by rw [upd_ne (Ne.symm nap), upd_ne h7, upd_same]))) (h5.mono sF), .lst (.inl (.inl (by rw [upd_ne (Ne.symm naq), upd_same]))) (h6.mono sF)⟩
    have e : L2.start N [V.ref a] = some (.ref a) :: List.replicate (N.length - 1) none := rfl
    rw [e]
    have R : Rel K ⟨K, none, upd (upd (upd Fz p (.lst vD)) q (.lst vU)) a (.ins (SC K) dx (sesF vL p q)), H, [], none, fun _ => []⟩ (some (.sl L D U) :: List.replicate (N.length - 1) none) none (some (.ref a) :: List.replicate (N.length - 1) none) (upd (upd (upd Fz p (.lst vD)) q (.lst vU)) a (.ins (SC K) dx (sesF vL p q))) H :=
      ⟨.refl sm3, by simp, fun t e => (by cases e), fun t e => (by cases e), trivial, fun i sv e => (by
        match i, e with
        | 0, e => cases e; exact ⟨.ref a, rfl, hsl⟩
        | i + 1, e =>
          simp only [List.getElem?_cons_succ, List.getElem?_replicate] at e
          split at e <;> cases e), fun i j a ha => (by cases ha), fun i a ha => (by cases ha), fun e he => (by cases he), fun e he => (by cases he), tb3, rfl⟩
    refine ⟨_, _, none, _, R, ?_⟩
    unfold runQ at hm
    cases hB : B (some (.sl L D U) :: List.replicate (N.length - 1) none) none with
    | rt r W =>
      rw [hB] at hm
      cases r with
      | d x =>
        cases x with
        | str z =>
          intro G' ρ' σ' v F' H' b s R' hv
          have hv : Dq K F' v (.str z) := hv
          cases hv
          have g : Gr0 K (upd (upd (upd Fz p (.lst vD)) q (.lst vU)) a (.ins (SC K) dx (sesF vL p q))) H F' H' := by
            have g := R'.gr; unfold Gh.tm at g; rw [b.T0, b.F0, b.H0] at g; exact g.mono fun _ z => nomatch z
          have g1 := Gr0.unlendO f2 h1 nt_ins ins_code tb2 g
          have g2 := Gr0.unlendO f1 h3 nt_lst lst_code tb1 g1
          have g3 := Gr0.unlendO n.2.1 h2 nt_lst lst_code tb g2
          exact hm _ _ H' g3 (.str z)
        | _ => exact hm.elim
      | _ => exact hm.elim
    | nx ρ W => rw [hB] at hm; exact hm.elim
    | exc c => rw [hB] at hm; exact hm.elim
    | rs r ρ W => rw [hB] at hm; exact hm.elim
    | bad => rw [hB] at hm; exact hm.elim
theorem fn_XS (F : Fun K x qual st f fd) (S : FnScope N ps (defScope st)) (hn : ps.length = n)
    (hb : ∀ (cdv : Value) (A : Around) (outer : List Env) (s : Shared) (H : Hp) (E : XK), Room k (A.deeper (envOfC qual (defScope st) s.heap.objs.size f cdv)) → PSs (cxOf (L2.CX P w) P w K mg base N qual (defScope st) f cdv A outer s H E) (defBody st) (tS K (XEof mg E) B)) :
    FnOk P w K mg base (L2.CX P w) (k + 1) f fd ps (spXS K mg n (runS N.length B)) := by
  refine F.okX S (fun vs H Q E h => ?_) fun cdv A outer s H vs Q E hr h => ⟨tS K (XEof mg E) B, hb cdv A outer s H E hr, ?_⟩
  · obtain ⟨Fz, ds, _, _, hd, hl, _⟩ := h
    rw [hd.length, hl, hn]
  · obtain ⟨Fz, ds, sm, tb, hd, hl, hm⟩ := h
    have e : L2.start N vs = vs.map some ++ List.replicate (N.length - ds.length) none := by unfold L2.start; rw [hd.length]
    rw [e]
    refine ⟨_, start0 N.length ds, none, Fz, Rel.start sm tb hd, ?_⟩
    unfold runS at hm
    cases hB : B (start0 N.length ds) none with
    | rt r W =>
      rw [hB] at hm
      cases r with
      | se L D U =>
        intro G' ρ' σ' v F' H' b s R ⟨a, p, q, hv, h0, hF, hs⟩
        subst hv
        rw [b.H0] at h0
        exact hm a p q F' H' (by have g := R.gr; unfold Gh.tm at g; rw [b.T0, b.F0, b.H0] at g; exact g.mono fun _ z => nomatch z) hs hF h0
      | _ => exact hm.elim
    | nx ρ W => rw [hB] at hm; exact hm.elim
    | exc c =>
      rw [hB] at hm
      exact fun F' H' g => hm F' H' (by unfold Gh.tm at g; exact g.mono fun _ z => nomatch z)
    | rs r ρ W => rw [hB] at hm; exact hm.elim
    | bad => rw [hB] at hm; exact hm.elim
end
/-! ### their calls -/
section
variable {X : Cx} {XE : Str → Hp → Prop} {e a b c : Expr} {es : List Expr} {pos p pt p2 apos : Pos} {fa fe f1 f2 : SE} {ga : SA} {k n i j : Nat} {f : Addr} {fd : FuncData} {ps : List Str} {x y t m : Str}
theorem d_fnQ {Fs : Dt → List Dt → List Dt → Res Dt} (Fo : FnOk X.prog X.w X.K X.mg X.base CX0 k f fd ps (spQ X.K Fs)) (hr : Room k X.A) (hg : Gl X t) (hm : X.mg t = some (.ref f)) (hk : PySem.W.keepIn X.K (.ref f) = true) (hb : Binds X.K fd ps []) (hv : PE X (.Name x p2) (tVar i))
    (hdb : (t == ("__debug__" : Str)) = false := by decide) (he : starEach [.Name x p2] X.env = (false, eval (.Name x p2) X.env) :: starEach [] X.env := by rfl) (hpl : (backTo pos (starEach [] X.env)).any (·.1) = false := by rfl) :
    PE X (.Call (.Name t p) [.Name x p2] [] pos) (tE X.K XE (eQ i Fs)) := by
  refine (pe_call Fo hr hg hm hk hb .nil pass0 (pa_cons hv pa_nil he) hdb he hpl).weak fun σ H Q ⟨G, ρ, W, F, R, q⟩ => ?_
  unfold eQ at q
  split at q
  · rename_i L D U hs
    obtain ⟨v, h1, a, p', q', rfl, hf, s⟩ := R.sl i _ hs
    have hn : ∀ x ∈ [a, p', q'], F x = none := fun x hx => (R.fr i x (by rw [hf]; exact hx)).1
    obtain ⟨d, hd, q⟩ := Pg.of_resT q
    refine ⟨_, h1, F, a, p', q', L, D, U, rfl, R.fh, R.tb, s, ⟨hn _ (by simp), hn _ (by simp), hn _ (by simp)⟩, ?_⟩
    rw [hd]
    exact fun v F' H' g hv => q v F' H' g.ff (R.grow g) hv
  · exact q.elim
theorem e_load {Fs : List Dt → Res SV} (Fo : FnOk X.prog X.w X.K X.mg X.base (L2.CX X.prog X.w) k f fd ps (spXS X.K X.mg 1 Fs)) (hr : Room k X.A) (hg : Gl X x) (hm : X.mg x = some (.ref f)) (hk : PySem.W.keepIn X.K (.ref f) = true) (hb : Binds X.K fd ps []) (tk : TkX X XE) (ha : PE X e (tE X.K XE fa))
    (hdb : (x == ("__debug__" : Str)) = false := by decide) (he : starEach [e] X.env = (false, eval e X.env) :: starEach [] X.env := by rfl) (hpl : (backTo pos (starEach [] X.env)).any (·.1) = false := by rfl) :
    PE X (.Call (.Name x p) [e] [] pos) (tNewS X.K XE (fun d => Fs [d]) fa) := by
  obtain ⟨Wx, tw, hW⟩ := tk
  refine (pe_callS (E := WE Wx) Fo hr hg hm hk hb (passAt tw) (pa_cons ha pa_nil he) hdb he hpl).weak fun σ H Q ⟨G, ρ, Wt, F, R, q⟩ => ?_
  refine ⟨G, ρ, Wt, F, R, q.mono fun d W1 q v F1 H1 s1 R1 hv => ?_⟩
  refine ⟨F1, [d], R1.fh, R1.tb, .cons hv .nil, rfl, ?_⟩
  cases hF : Fs [d] with
  | ok sv =>
    simp only [hF] at q
    exact fun a p' q' F' H' g s n nn => q a p' q' F1 H1 F' H' s1 R1 g s n nn
  | exc c =>
    simp only [hF] at q
    exact fun F' H' g => hW c σ H' (q F' H' (R1.grow g).gr0)
  | bad => first | (simp only [hF] at q; done) | (simp only [hF] at q; exact q.elim)
end
end Sx

namespace Sx
open PySem PySem.Spec PyProof.Rows L2
/-! ### outcomes of a session's steps, and of loading -/
def lcall2 (Fu Fr : Dt → List Dt → List Dt → List Dt → Res (Dt × SV)) (way : Int) (L : Dt) (D U : List Dt) : Res (Dt × SV) := if way = 0 then Fu L D U [] else if way = 1 then Fr L D U [] else .bad
def spC2 (K : PySem.W.Frag) (mg : Str → Option Value) (Fs : Int → Dt → List Dt → List Dt → Res (Dt × SV)) : Sp := fun vs H Q E => ∃ F a p q L D U way, vs = [.int way, .ref a] ∧ Same F H ∧ TabsF (tabsOf K) F H ∧ SesAt K F H a p q L D U ∧ (F a = none ∧ F p = none ∧ F q = none) ∧ match Fs way L D U with
  | .ok r => ∀ v F' H' p' q', Gr0 K F (delS H a p q) F' H' → SesV K F' H' a p' q' r.2 → (F' a = none ∧ F' p' = none ∧ F' q' = none) → delS H a p q p' = none → delS H a p q q' = none → Dq K F' v r.1 → Q v H'
  | .exc c => ∀ F' H', Gr0 K F H F' H' → XEof mg E c H'
  | .bad => False
def spCD (K : PySem.W.Frag) (mg : Str → Option Value) (Fl : List Dt → Res SV) : Sp := fun vs H Q E => ∃ F v x, vs = [.int 2, v] ∧ Same F H ∧ TabsF (tabsOf K) F H ∧ Dq K F v x ∧ match Fl [x] with
  | .exc c => ∀ F' H', Gr0 K F H F' H' → XEof mg E c H'
  | _ => False
def spO2 (K : PySem.W.Frag) (Fs : Int → Dt → List Dt → List Dt → Res (Dt × SV)) (Fn : Str → Res Dt) : Sp := fun vs H Q _ => ∃ F a p q L D U way, vs = [.int way, .ref a] ∧ Same F H ∧ TabsF (tabsOf K) F H ∧ SesAt K F H a p q L D U ∧ (F a = none ∧ F p = none ∧ F q = none) ∧ match Fs way L D U with
  | .ok r => ∀ v F' H' p' q', Gr0 K F (delS H a p q) F' H' → SesV K F' H' a p' q' r.2 → (F' a = none ∧ F' p' = none ∧ F' q' = none) → delS H a p q p' = none → delS H a p q q' = none → Dq K F' v (.tuple [.str "returned", r.1]) → Q v H'
  | .exc c => c ∈ excN ∧ (match Fn c with
    | .ok d => ∀ v F' H', Gr0 K F H F' H' → Dq K F' v (.tuple [.str "raised", d]) → Q v H'
    | _ => False)
  | .bad => False
def outD (Fl : List Dt → Res SV) (Fn : Str → Res Dt) : List Dt → Res Dt
  | [.int w, x] => if w = 2 then (match Fl [x] with
    | .exc c => if c ∈ excN then (match Fn c with
      | .ok d => .ok (.tuple [.str "raised", d])
      | _ => .bad) else .bad
    | _ => .bad) else .bad
  | _ => .bad
def xOut1 (i : Nat) (Fs : Int → Dt → List Dt → List Dt → Res (Dt × SV)) (Fn : Str → Res Dt) (f1 : SE) : SX := fun ρ W => (f1 ρ W).bind fun p1 => match ρ[i]? with
  | some (some (.se L D U)) => (match p1.1 with
    | .int w => (match Fs w L D U with
      | .ok r => .ok (.tuple [.str "returned", r.1], ρ.set i (some r.2), p1.2)
      | .exc c => if c ∈ excN then (match Fn c with
        | .ok d => .ok (.tuple [.str "raised", d], ρ, p1.2)
        | _ => .bad) else .bad
      | .bad => .bad)
    | _ => .bad)
  | _ => .bad
def MO2 (P : Program) (w : World) (K : PySem.W.Frag) (mg : Str → Option Value) (base : Heap) (k : Nat) (Fs : Int → Dt → List Dt → List Dt → Res (Dt × SV)) (Fn : Str → Res Dt) : Prop :=
  ∃ f fd, FnOk P w K mg base CX0 k f fd ["way", "arguments"] (spO2 K Fs Fn) ∧ mg "_law_outcome" = some (.ref f) ∧ PySem.W.keepIn K (.ref f) = true ∧ Binds K fd ["way", "arguments"] []
def MSv (P : Program) (w : World) (K : PySem.W.Frag) (mg : Str → Option Value) (base : Heap) (k : Nat) (Fs : Dt → List Dt → List Dt → Res Dt) : Prop :=
  ∃ f fd, FnOk P w K mg base CX0 k f fd ["session"] (spQ K Fs) ∧ mg "save" = some (.ref f) ∧ PySem.W.keepIn K (.ref f) = true ∧ Binds K fd ["session"] []
def MLd (P : Program) (w : World) (K : PySem.W.Frag) (mg : Str → Option Value) (base : Heap) (k : Nat) (Fs : List Dt → Res SV) : Prop :=
  ∃ f fd, FnOk P w K mg base (L2.CX P w) k f fd ["text"] (spXS K mg 1 Fs) ∧ mg "load" = some (.ref f) ∧ PySem.W.keepIn K (.ref f) = true ∧ Binds K fd ["text"] []
section
variable {X : Cx} {XE : Str → Hp → Prop} {e a b c : Expr} {es : List Expr} {pos p pt p2 apos : Pos} {fa fe f1 f2 : SE} {ga : SA} {k n i j : Nat} {f : Addr} {fd : FuncData} {ps : List Str} {x y t m : Str}
theorem x_out1 {Fs : Int → Dt → List Dt → List Dt → Res (Dt × SV)} {Fn : Str → Res Dt} (Fo : FnOk X.prog X.w X.K X.mg X.base CX0 k f fd ps (spO2 X.K Fs Fn)) (hr : Room k X.A) (hg : Gl X t) (hm : X.mg t = some (.ref f)) (hk : PySem.W.keepIn X.K (.ref f) = true) (hb : Binds X.K fd ps [])
    (h1 : PE X a (tE X.K XE f1)) (hv : PE X (.Name x p2) (tVar i))
    (hdb : (t == ("__debug__" : Str)) = false := by decide) (he : starEach [a, .Name x p2] X.env = (false, eval a X.env) :: starEach [.Name x p2] X.env := by rfl) (he2 : starEach [.Name x p2] X.env = (false, eval (.Name x p2) X.env) :: starEach [] X.env := by rfl) (hpl : (backTo pos (starEach [.Name x p2] X.env)).any (·.1) = false := by rfl) :
    PE X (.Call (.Name t p) [a, .Name x p2] [] pos) (tX X.K XE (xOut1 i Fs Fn f1)) := by
  refine (pe_call Fo hr hg hm hk hb .nil pass0 (pa_cons h1 (pa_cons hv pa_nil he2) he) hdb he hpl).weak fun σ H Q ⟨G, ρ, W, F, R, q⟩ => ?_
  unfold xOut1 at q
  refine ⟨G, ρ, W, F, R, (PX.of_pure q).mono fun d1 W1 q v1 F1 H1 s1 R1 hv1 => ?_⟩
  simp only at q
  split at q
  · rename_i L D U hs
    obtain ⟨v, h1', a0, p0, q0, rfl, hf0, s0⟩ := R1.sl i _ hs
    have hn : ∀ x ∈ [a0, p0, q0], F1 x = none := fun x hx => (R1.fr i x (by rw [hf0]; exact hx)).1
    refine ⟨_, h1', ?_⟩
    cases d1 with
    | int wy =>
      cases hv1
      simp only at q
      refine ⟨F1, a0, p0, q0, L, D, U, wy, rfl, R1.fh, R1.tb, s0, ⟨hn _ (by simp), hn _ (by simp), hn _ (by simp)⟩, ?_⟩
      cases hF : Fs wy L D U with
      | ok r =>
        simp only [hF] at q
        intro v F' H' p3 q3 g s3 n3 np nq hv
        obtain ⟨r1, r2⟩ := r
        cases r2 with
        | se L' D' U' => exact q (G.ownL i [a0, p3, q3]) F' H' (G.ownL_same i _) (s1.trans g.ff) (R1.seCallL hs h1' hf0 s0 g s3 n3 np nq) v hv
        | _ => exact s3.elim
      | exc cc =>
        simp only [hF] at q
        by_cases hmem : cc ∈ excN
        · rw [if_pos hmem] at q
          refine ⟨hmem, ?_⟩
          cases hN : Fn cc with
          | ok d =>
            simp only [hN] at q
            exact fun v F' H' g hv => q G F' H' (.refl _) (s1.trans g.ff) (R1.grow g) v hv
          | exc c' => simp only [hN] at q; exact q.elim
          | bad => simp only [hN] at q; exact q.elim
        · rw [if_neg hmem] at q; exact q.elim
      | bad => simp only [hF] at q; exact q.elim
    | _ => exact q.elim
  · exact q.elim
theorem c_neSS (hs : Meth X.K (SC X.K) "__eq__" f) (Sd : SesD X.K) (Fo : FnOk X.prog X.w X.K X.mg X.base CX0 k f fd ps (spE X.K)) (hr : Room (k + 1) X.A) (hb : Binds X.K fd ps []) (hv : PE X (.Name x p) (tVar i)) (hw : PE X (.Name y p2) (tVar j)) (hm : behindInMarks .NotEq (.Name y p2) = false) :
    PT X (.Compare (.Name x p) [.NotEq] [.Name y p2] pos) (tT X.K XE (bOf (eNeSS i j))) := by
  refine (pt_cmpR (op_neO hs Sd.ne Sd.cm Fo hr hb pass0) hv hw hm).weak fun σ H Q ⟨G, ρ, W, F, R, q⟩ => ?_
  unfold bOf at q
  cases hE0 : eNeSS i j ρ W with
  | exc c =>
    unfold eNeSS at hE0
    split at hE0
    · split at hE0 <;> cases hE0
    · cases hE0
  | bad => rw [hE0] at q; exact q.elim
  | ok r =>
    rw [hE0] at q
    unfold eNeSS at hE0
    split at hE0
    · rename_i L D U L' D' U' hi hj
      obtain ⟨v, h1, a, p', q', rfl, hf, s⟩ := R.sl i _ hi
      obtain ⟨v', h1', a', p'', q'', rfl, hf', s'⟩ := R.sl j _ hj
      obtain ⟨dx, vL, vD, vU, k1, k2⟩ := id s
      obtain ⟨dx', vL', vD', vU', k1', k2'⟩ := id s'
      refine ⟨_, h1, _, h1', a, dx, _, _, rfl, k1, .ins k1', notFirst0, F, a, p', q', L, D, U, _, rfl, R.fh, R.tb, s, .inl ⟨a', p'', q'', L', D', U', rfl, s', ?_⟩⟩
      cases hE : eqS L D L' D' with
      | none => simp only [hE] at hE0; cases hE0
      | some kb =>
        simp only [hE] at hE0
        cases hE0
        exact fun F' H' g => ⟨kb, rfl, !kb, rfl, q F' H' g.ff (R.grow g)⟩
    · cases hE0
end
end Sx
namespace L2
open PySem PySem.Spec PyProof.Rows
theorem pg_star2 {X : Cx} {pos px py ps : Pos} {x y : Str} {k : Nat} {t1 t2 : TG} (hc : X.calm = true) (h1 : PG X (.Name x px) t1) (h2 : PG X (.Name y py) t2) : PG X (.Tuple [.Name x px, .Starred (.Name y py) ps] k pos) (gStar X.K (gCons t1 (gCons t2 gNil))) :=
  pg_star (es' := [.Name x px, .Name y py]) hc (pgs_cons h1 (pgs_cons h2 pgs_nil))
end L2

namespace Sx
open PySem PySem.Spec PyProof.Rows L2

def B_is_between : SS :=
    (sRet (eAnd (eUn (isiD "int") (eVar 0)) (eAnd (eNot (eUn (isiD "bool") (eVar 0))) (eChain leD leD (eVar 1) (eVar 0) (eVar 2)))))
def F_is_between := runP 3 B_is_between

def wC_divisor_1 : SB :=
    (bOf (eBin neD (eVar 1) (eC (.int 0))))
def wB_divisor_1 : SS :=
    (sPar [0, 1] (mD (eVar 1) (mD (eBin modD (eVar 0) (eVar 1)) mNil)))
def B_divisor : SS :=
    (sSeq (sWhile (fuelI 1) wC_divisor_1 wB_divisor_1)
    (sRet (eCB absD (aCons (eVar 0) aNil))))
def F_divisor := runP 2 B_divisor

def B_is_less : SS :=
    (sRet (eBin ltD (eBin mulD (eBin ixD (eVar 0) (eC (.int 0))) (eBin ixD (eVar 1) (eC (.int 1)))) (eBin mulD (eBin ixD (eVar 1) (eC (.int 0))) (eBin ixD (eVar 0) (eC (.int 1))))))
def F_is_less := runP 2 B_is_less

def B_is_endless : SS :=
    (sRet (eAnd (eBin eqD (eBin ixD (eVar 0) (eC (.int 0))) (eC (.str "shares"))) (eBin ltD (eCB lenD (aCons (eBin ixD (eVar 0) (eC (.int 2))) aNil)) (eCB lenD (aCons (eBin ixD (eVar 0) (eC (.int 1))) aNil)))))
def F_is_endless := runP 1 B_is_endless

def B__law_town : SS :=
    (sRetL (lBin addL (eFrz (lLst (aCons (eC (.int 0)) aNil))) (eFrz (lCB listL (aCons (eVar 0) aNil)))))
def F__law_town := runL 1 B__law_town

def B__law_draw : SS :=
    (sSeq (sSetT 1 (eC (.int 0)) (eBin addD (eIxT 1 (eC (.int 0))) (eC (.int 1))))
    (sSeq (sIf (bOf (eBin eqD (eVar 0) (eFrz (lLst aNil)))) (sRet (eBin modD (eBin fdivD (eBin mulD (eBin mulD (eIxT 1 (eC (.int 0))) (eIxT 1 (eC (.int 0)))) (eC (.int 7))) (eC (.int 3))) (eVar 2))) sPass)
    (sSeq (sAsg 3 (eBin modD (eIxT 1 (eC (.int 0))) (eCB lenD (aCons (eVar 0) aNil))))
    (sSeq (sAsg 4 (eIxT 1 (eBin addD (eC (.int 1)) (eVar 3))))
    (sSeq (sIf (bAnd (bOf (eBin geD (eBin ixD (eVar 0) (eVar 3)) (eBin powD (eC (.int 10)) (eC (.int 18))))) (bOf (eBin gtD (eVar 4) (eC (.int 0))))) (sSeq (sSetT 1 (eBin addD (eC (.int 1)) (eVar 3)) (eBin fdivD (eVar 4) (eVar 2)))
    (sRet (eBin modD (eVar 4) (eVar 2)))) sPass)
    (sSeq (sAsg 5 (eBin modD (eBin addD (eBin ixD (eVar 0) (eVar 3)) (eBin mulD (eC (.int 104729)) (eIxT 1 (eC (.int 0))))) (eC (.int 4294967291))))
    (sSeq (sAsg 5 (eBin modD (eBin powD (eVar 5) (eC (.int 5))) (eC (.int 4294967279))))
    (sRet (eBin modD (eBin fdivD (eBin modD (eBin addD (eBin mulD (eBin fdivD (eVar 5) (eC (.int 64))) (eC (.int 69621))) (eVar 5)) (eC (.int 4294967231))) (eC (.int 8))) (eVar 2))))))))))
def F__law_draw := runT 6 B__law_draw

def wC__law_frac_1 : SB :=
    (bOf (eBin gtD (eVar 3) (eC (.int 0))))
def wB__law_frac_1 : SS :=
    (sPar [2, 3] (mD (eVar 3) (mD (eBin modD (eVar 2) (eVar 3)) mNil)))
def B__law_frac : SS :=
    (sSeq (sPar [2, 3] (mD (eVar 1) (mD (eCB absD (aCons (eVar 0) aNil)) mNil)))
    (sSeq (sWhile (fuelI 3) wC__law_frac_1 wB__law_frac_1)
    (sRet (eTup (aCons (eBin fdivD (eVar 0) (eVar 2)) (aCons (eBin fdivD (eVar 1) (eVar 2)) aNil))))))
def F__law_frac := runP 4 B__law_frac


def B_fraction : SS :=
    (sSeq (sAsg 2 (eCall 2 F_divisor (aCons (eVar 0) (aCons (eVar 1) aNil))))
    (sRet (eTup (aCons (eBin fdivD (eVar 0) (eVar 2)) (aCons (eBin fdivD (eVar 1) (eVar 2)) aNil)))))
def F_fraction := runP 3 B_fraction

def B_lesser : SS :=
    (sRet (eIf (bOf (eCall 2 F_is_less (aCons (eVar 1) (aCons (eVar 0) aNil)))) (eVar 1) (eVar 0)))
def F_lesser := runP 2 B_lesser

def lB_are_pairs_1 : SS :=
    (sSeq (sIf (bOr (bNot (bOf (eUn (isiD "tuple") (eVar 4)))) (bOr (bOf (eBin neD (eCB lenD (aCons (eVar 4) aNil)) (eC (.int 2)))) (bNot (bOf (eCall 3 F_is_between (aCons (eBin ixD (eVar 4) (eC (.int 0))) (aCons (eC (.int 0)) (aCons (eBin subD (eVar 0) (eC (.int 1))) aNil)))))))) (sRet (eC (.bool false))) sPass)
    (sIf (bNot (bOf (eCall 3 F_is_between (aCons (eBin ixD (eVar 4) (eC (.int 1))) (aCons (eC (.int 1)) (aCons (eVar 2) aNil)))))) (sRet (eC (.bool false))) sPass))
def cE_are_pairs_2 : SE :=
    (eBin ltD (eBin ixD (eBin ixD (eVar 1) (eVar 5)) (eC (.int 0))) (eBin ixD (eBin ixD (eVar 1) (eBin addD (eVar 5) (eC (.int 1)))) (eC (.int 0))))
def B_are_pairs : SS :=
    (sSeq (sIf (bOr (bNot (bOf (eUn (isiD "tuple") (eVar 1)))) (bOf (eBin ltD (eCB lenD (aCons (eVar 1) aNil)) (eVar 3)))) (sRet (eC (.bool false))) sPass)
    (sSeq (sFor (iSeq (eVar 1)) (gN 4) lB_are_pairs_1)
    (sRet (eCB allD (aCons (eFrz (lComp (iRng (aCons (eBin subD (eCB lenD (aCons (eVar 1) aNil)) (eC (.int 1))) aNil)) (gN 5) bYes cE_are_pairs_2 [5])) aNil)))))
def F_are_pairs := runP 6 B_are_pairs

def B_is_amount : SS :=
    (sSeq (sIf (bOr (bNot (bOf (eUn (isiD "tuple") (eVar 0)))) (bOr (bOf (eBin neD (eCB lenD (aCons (eVar 0) aNil)) (eC (.int 2)))) (bNot (bOf (eCall 3 F_is_between (aCons (eBin ixD (eVar 0) (eC (.int 1))) (aCons (eC (.int 1)) (aCons (eC (.int 1000)) aNil)))))))) (sRet (eC (.bool false))) sPass)
    (sRet (eAnd (eCall 3 F_is_between (aCons (eBin ixD (eVar 0) (eC (.int 0))) (aCons (eC (.int 0)) (aCons (eBin mulD (eC (.int 1000000)) (eBin ixD (eVar 0) (eC (.int 1)))) aNil)))) (eBin eqD (eCall 2 F_divisor (aCons (eBin ixD (eVar 0) (eC (.int 0))) (aCons (eBin ixD (eVar 0) (eC (.int 1))) aNil))) (eC (.int 1))))))
def F_is_amount := runP 1 B_is_amount

def B__law_pick : SS :=
    (sRet (eBin ixD (eVar 2) (eCallT 1 F__law_draw (eVar 0) 1 (aCons (eCB lenD (aCons (eVar 2) aNil)) aNil))))
def F__law_pick := runT 3 B__law_pick





def B_plus : SS :=
    (sRet (eCall 2 F_fraction (aCons (eBin addD (eBin mulD (eBin ixD (eVar 0) (eC (.int 0))) (eBin ixD (eVar 1) (eC (.int 1)))) (eBin mulD (eBin ixD (eVar 1) (eC (.int 0))) (eBin ixD (eVar 0) (eC (.int 1))))) (aCons (eBin mulD (eBin ixD (eVar 0) (eC (.int 1))) (eBin ixD (eVar 1) (eC (.int 1)))) aNil))))
def F_plus := runP 2 B_plus

def B_product : SS :=
    (sRet (eCall 2 F_fraction (aCons (eBin mulD (eBin ixD (eVar 0) (eC (.int 0))) (eBin ixD (eVar 1) (eC (.int 0)))) (aCons (eBin mulD (eBin ixD (eVar 0) (eC (.int 1))) (eBin ixD (eVar 1) (eC (.int 1)))) aNil))))
def F_product := runP 2 B_product

def B_quotient : SS :=
    (sRet (eCall 2 F_fraction (aCons (eBin mulD (eBin ixD (eVar 0) (eC (.int 0))) (eBin ixD (eVar 1) (eC (.int 1)))) (aCons (eBin mulD (eBin ixD (eVar 0) (eC (.int 1))) (eBin ixD (eVar 1) (eC (.int 0)))) aNil))))
def F_quotient := runP 2 B_quotient

def cE_is_rung_1 : SE :=
    (eVar 3)
def cE_is_rung_2 : SE :=
    (eBin inD (eVar 3) (eVar 2))
def B_is_rung : SS :=
    (sSeq (sIf (bOr (bNot (bOf (eUn (isiD "tuple") (eVar 1)))) (bOr (bNot (bOf (eChain leD leD (eC (.int 2)) (eCB lenD (aCons (eVar 1) aNil)) (eC (.int 3))))) (bNot (bOf (eUn (isiD "str") (eBin ixD (eVar 1) (eC (.int 0)))))))) (sRet (eC (.bool false))) sPass)
    (sSeq (sIf (bOf (eBin eqD (eBin ixD (eVar 1) (eC (.int 0))) (eC (.str "fixed")))) (sRet (eAnd (eBin eqD (eCB lenD (aCons (eVar 1) aNil)) (eC (.int 2))) (eCall 4 F_are_pairs (aCons (eVar 0) (aCons (eBin ixD (eVar 1) (eC (.int 1))) (aCons (eC (.int 999)) (aCons (eC (.int 1)) aNil))))))) sPass)
    (sSeq (sIf (bOr (bOf (eBin neD (eBin ixD (eVar 1) (eC (.int 0))) (eC (.str "shares")))) (bOf (eBin neD (eCB lenD (aCons (eVar 1) aNil)) (eC (.int 3))))) (sRet (eC (.bool false))) sPass)
    (sSeq (sIf (bOr (bNot (bOf (eCall 4 F_are_pairs (aCons (eVar 0) (aCons (eBin ixD (eVar 1) (eC (.int 1))) (aCons (eC (.int 20)) (aCons (eC (.int 1)) aNil))))))) (bNot (bOf (eCall 4 F_are_pairs (aCons (eVar 0) (aCons (eBin ixD (eVar 1) (eC (.int 2))) (aCons (eC (.int 999)) (aCons (eC (.int 0)) aNil)))))))) (sRet (eC (.bool false))) sPass)
    (sSeq (sAsg 2 (eFrz (lComp (iSeq (eBin ixD (eVar 1) (eC (.int 1)))) (gTu 2 (gsCons (gN 3) (gsCons (gN 4) gsNil))) bYes cE_is_rung_1 [3, 4])))
    (sRet (eCB allD (aCons (eFrz (lComp (iSeq (eBin ixD (eVar 1) (eC (.int 2)))) (gTu 2 (gsCons (gN 3) (gsCons (gN 5) gsNil))) bYes cE_is_rung_2 [3, 5])) aNil))))))))
def F_is_rung := runP 6 B_is_rung

def B_check_amount : SS :=
    (sIf (bNot (bOf (eCall 1 F_is_amount (aCons (eVar 0) aNil)))) sNever sPass)
def F_check_amount := runP 1 B_check_amount

def cE_fixed_pieces_1 : SE :=
    (eVar 5)
def lB_fixed_pieces_2 : SS :=
    (sSet 3 (eVar 4) (eCall 2 F_fraction (aCons (eVar 5) (aCons (eVar 2) aNil))))
def B_fixed_pieces : SS :=
    (sSeq (sAsg 2 (eCB sumD (aCons (eFrz (lComp (iSeq (eVar 1)) (gTu 2 (gsCons (gN 4) (gsCons (gN 5) gsNil))) bYes cE_fixed_pieces_1 [4, 5])) aNil)))
    (sSeq (sOwn 3 (lBin mulL (eFrz (lLst (aCons (eC (PyData.tuple [.int 0, .int 1])) aNil))) (eVar 0)))
    (sSeq (sFor (iSeq (eVar 1)) (gTu 2 (gsCons (gN 4) (gsCons (gN 5) gsNil))) lB_fixed_pieces_2)
    (sRet (eFrz (lLst (aCons (eTup (aCons (eTup (aCons (eVar 2) (aCons (eC (.int 1)) aNil))) (aCons (eCB tupleD (aCons (eBor 3) aNil)) aNil))) aNil)))))))
def F_fixed_pieces := runP 6 B_fixed_pieces

def cC__law_pairs_1 : SB :=
    (bOf (eBin eqD (eCallT 1 F__law_draw (eVar 0) 1 (aCons (eC (.int 2)) aNil)) (eC (.int 0))))
def cE__law_pairs_1 : SE :=
    (eVar 5)
def cE__law_pairs_2 : SE :=
    (eTup (aCons (eVar 5) (aCons (eCallT 1 F__law_pick (eVar 0) 1 (aCons (eVar 3) aNil)) aNil)))
def B__law_pairs : SS :=
    (sSeq (sAsg 4 (eFrz (lComp (iRng (aCons (eVar 2) aNil)) (gN 5) cC__law_pairs_1 cE__law_pairs_1 [5])))
    (sSeq (sIf (bOf (eBin eqD (eVar 4) (eFrz (lLst aNil)))) (sAsg 4 (eFrz (lLst (aCons (eCallT 1 F__law_draw (eVar 0) 1 (aCons (eVar 2) aNil)) aNil)))) sPass)
    (sRet (eCB tupleD (aCons (eFrz (lComp (iSeq (eVar 4)) (gN 5) bYes cE__law_pairs_2 [5])) aNil)))))
def F__law_pairs := runT 6 B__law_pairs



def B_minus : SS :=
    (sRet (eCall 2 F_plus (aCons (eVar 0) (aCons (eTup (aCons (eUn negD (eBin ixD (eVar 1) (eC (.int 0)))) (aCons (eBin ixD (eVar 1) (eC (.int 1))) aNil))) aNil))))
def F_minus := runP 2 B_minus

def cE_is_ladder_1 : SE :=
    (eCall 2 F_is_rung (aCons (eVar 1) (aCons (eVar 3) aNil)))
def B_is_ladder : SS :=
    (sSeq (sIf (bOr (bNot (bOf (eUn (isiD "tuple") (eVar 0)))) (bOr (bOf (eBin neD (eCB lenD (aCons (eVar 0) aNil)) (eC (.int 2)))) (bNot (bOf (eCall 3 F_is_between (aCons (eBin ixD (eVar 0) (eC (.int 0))) (aCons (eC (.int 1)) (aCons (eC (.int 5)) aNil)))))))) (sRet (eC (.bool false))) sPass)
    (sSeq (sAsgG (gTu 2 (gsCons (gN 1) (gsCons (gN 2) gsNil))) (eVar 0))
    (sSeq (sIf (bOr (bNot (bOf (eUn (isiD "tuple") (eVar 2)))) (bNot (bOf (eChain leD leD (eC (.int 1)) (eCB lenD (aCons (eVar 2) aNil)) (eC (.int 4)))))) (sRet (eC (.bool false))) sPass)
    (sRet (eAnd (eCB allD (aCons (eFrz (lComp (iSeq (eVar 2)) (gN 3) bYes cE_is_ladder_1 [3])) aNil)) (eCall 1 F_is_endless (aCons (eBin ixD (eVar 2) (eUn negD (eC (.int 1)))) aNil)))))))
def F_is_ladder := runP 4 B_is_ladder

def lB__law_rung_1 : SS :=
    (sIf (bAnd (bOf (eBin neD (eVar 7) (eVar 5))) (bOf (eBin gtD (eCallT 1 F__law_draw (eVar 0) 1 (aCons (eC (.int 4)) aNil)) (eC (.int 0))))) (sApp 6 (eTup (aCons (eVar 7) (aCons (eCallT 1 F__law_pick (eVar 0) 1 (aCons (eFrz (lLst (aCons (eC (.int 1)) (aCons (eC (.int 2)) (aCons (eC (.int 3)) (aCons (eC (.int 5)) (aCons (eC (.int 10)) (aCons (eC (.int 20)) (aCons (eBin mulD (eC (.int 5)) (eVar 8)) aNil))))))))) aNil)) aNil)))) sPass)
def B__law_rung : SS :=
    (sSeq (sIf (bOf (eBin eqD (eVar 3) (eC (.int 0)))) (sRet (eTup (aCons (eC (.str "fixed")) (aCons (eCallT 2 F__law_pairs (eVar 0) 1 (aCons (eVar 2) (aCons (eFrz (lLst (aCons (eC (.int 1)) (aCons (eC (.int 2)) (aCons (eC (.int 3)) (aCons (eC (.int 5)) (aCons (eC (.int 10)) (aCons (eC (.int 20)) (aCons (eC (.int 100)) (aCons (eC (.int 999)) aNil)))))))))) aNil))) aNil)))) sPass)
    (sSeq (sAsg 4 (eCallT 2 F__law_pairs (eVar 0) 1 (aCons (eVar 2) (aCons (eFrz (lLst (aCons (eC (.int 1)) (aCons (eC (.int 1)) (aCons (eC (.int 2)) (aCons (eC (.int 3)) (aCons (eC (.int 4)) (aCons (eC (.int 20)) aNil)))))))) aNil))))
    (sSeq (sAsg 5 (eIf (bOf (eBin eqD (eVar 3) (eC (.int 2)))) (eBin ixD (eCallT 1 F__law_pick (eVar 0) 1 (aCons (eVar 4) aNil)) (eC (.int 0))) (eUn negD (eC (.int 1)))))
    (sSeq (sOwn 6 (lLst aNil))
    (sSeq (sFor (iSeq (eVar 4)) (gTu 2 (gsCons (gN 7) (gsCons (gN 8) gsNil))) lB__law_rung_1)
    (sRet (eTup (aCons (eC (.str "shares")) (aCons (eVar 4) (aCons (eCB tupleD (aCons (eBor 6) aNil)) aNil))))))))))
def F__law_rung := runT 9 B__law_rung


def B_check_ladder : SS :=
    (sIf (bNot (bOf (eCall 1 F_is_ladder (aCons (eVar 0) aNil)))) sNever sPass)
def F_check_ladder := runP 1 B_check_ladder

def cE_share_pieces_1 : SE :=
    (eTup (aCons (eVar 9) (aCons (eTup (aCons (eVar 12) (aCons (eC (.int 1)) aNil))) aNil)))
def cE_share_pieces_3 : SE :=
    (eVar 10)
def lB_share_pieces_4 : SS :=
    (sSeq (sSet 7 (eVar 9) (eCall 2 F_fraction (aCons (eVar 10) (aCons (eVar 6) aNil))))
    (sIf (bOf (eDin 3 (eVar 9))) (sSeq (sAsg 11 (eCall 2 F_quotient (aCons (eDget 3 (eVar 9)) (aCons (eBin ixD (eBor 7) (eVar 9)) aNil))))
    (sAsg 8 (eIf (bOf (eBin isD (eVar 8) (eC .none))) (eVar 11) (eCall 2 F_lesser (aCons (eVar 8) (aCons (eVar 11) aNil)))))) sPass))
def cE_share_pieces_5 : SE :=
    (eTup (aCons (eVar 9) (aCons (eCall 2 F_minus (aCons (eDget 3 (eVar 9)) (aCons (eCall 2 F_product (aCons (eVar 8) (aCons (eBin ixD (eBor 7) (eVar 9)) aNil))) aNil))) aNil)))
def cC_share_pieces_6 : SB :=
    (bOr (bOf (eDnin 3 (eBin ixD (eVar 13) (eC (.int 0))))) (bOf (eBin neD (eDget 3 (eBin ixD (eVar 13) (eC (.int 0)))) (eC (PyData.tuple [.int 0, .int 1])))))
def cE_share_pieces_6 : SE :=
    (eVar 13)
def cC_share_pieces_7 : SB :=
    (bOf (eBin neD (eDget 3 (eVar 9)) (eC (PyData.tuple [.int 0, .int 1]))))
def cE_share_pieces_7 : SE :=
    (eTup (aCons (eVar 9) (aCons (eDget 3 (eVar 9)) aNil)))
def wC_share_pieces_2 : SB :=
    (bOf (eBin neD (eVar 4) (eFrz (lLst aNil))))
def wB_share_pieces_2 : SS :=
    (sSeq (sAsg 6 (eCB sumD (aCons (eFrz (lComp (iSeq (eVar 4)) (gTu 2 (gsCons (gN 9) (gsCons (gN 10) gsNil))) bYes cE_share_pieces_3 [9, 10])) aNil)))
    (sSeq (sOwn 7 (lBin mulL (eFrz (lLst (aCons (eC (PyData.tuple [.int 0, .int 1])) aNil))) (eVar 0)))
    (sSeq (sAsg 8 (eC .none))
    (sSeq (sFor (iSeq (eVar 4)) (gTu 2 (gsCons (gN 9) (gsCons (gN 10) gsNil))) lB_share_pieces_4)
    (sSeq (sApp 5 (eTup (aCons (eVar 8) (aCons (eCB tupleD (aCons (eBor 7) aNil)) aNil))))
    (sSeq (sIf (bOf (eBin isD (eVar 8) (eC .none))) (fun ρ W => (sRet (eVar 5)) (frzS 5 ρ) W) sPass)
    (sSeq (sDk 3 (kDict (eFrz (lLock 3 (lComp (iDk 3) (gN 9) bYes cE_share_pieces_5 [9])))))
    (sSeq (sAsg 4 (eFrz (lComp (iSeq (eVar 4)) (gN 13) cC_share_pieces_6 cE_share_pieces_6 [13])))
    (sDk 3 (kDict (eFrz (lLock 3 (lComp (iDk 3) (gN 9) cC_share_pieces_7 cE_share_pieces_7 [9])))))))))))))
def B_share_pieces : SS :=
    (sSeq (sDk 3 (kDict (eFrz (lComp (iSeq (eVar 2)) (gTu 2 (gsCons (gN 9) (gsCons (gN 12) gsNil))) bYes cE_share_pieces_1 [9, 12]))))
    (sSeq (sPar [4, 5] (mD (eFrz (lCB listL (aCons (eVar 1) aNil))) (mL (lLst aNil) mNil)))
    (sSeq (sWhile (fun _ => 7) wC_share_pieces_2 wB_share_pieces_2)
    (fun ρ W => (sRet (eVar 5)) (frzS 5 ρ) W))))
def F_share_pieces := runP 14 B_share_pieces

def cC_payment_at_1 : SB :=
    (bNot (bOf (eCall 2 F_is_less (aCons (eVar 1) (aCons (eBin ixD (eVar 6) (eC (.int 0))) aNil)))))
def cE_payment_at_1 : SE :=
    (eVar 6)
def B_payment_at : SS :=
    (sSeq (sAsg 2 (eFrz (lComp (iSeq (eVar 0)) (gN 6) cC_payment_at_1 cE_payment_at_1 [6])))
    (sSeq (sAsgG (gTu 3 (gsCons (gN 3) (gsCons (gN 4) (gsCons (gN 5) gsNil)))) (eBin ixD (eVar 2) (eUn negD (eC (.int 1)))))
    (sRet (eCall 2 F_plus (aCons (eVar 4) (aCons (eCall 2 F_product (aCons (eVar 5) (aCons (eCall 2 F_minus (aCons (eVar 1) (aCons (eVar 3) aNil))) aNil))) aNil))))))
def F_payment_at := runP 7 B_payment_at

def cE__law_ladder_1 : SE :=
    (eCallT 2 F__law_rung (eVar 0) 1 (aCons (eVar 3) (aCons (eCallT 1 F__law_draw (eVar 0) 1 (aCons (eC (.int 2)) aNil)) aNil)))
def B__law_ladder : SS :=
    (sSeq (sAsg 3 (eBin addD (eC (.int 1)) (eCallT 1 F__law_draw (eVar 0) 1 (aCons (eVar 2) aNil))))
    (sSeq (sAsg 4 (eFrz (lComp (iRng (aCons (eCallT 1 F__law_draw (eVar 0) 1 (aCons (eC (.int 4)) aNil)) aNil)) (gN 5) bYes cE__law_ladder_1 [5])))
    (sRet (eTup (aCons (eVar 3) (aCons (eBin addD (eCB tupleD (aCons (eVar 4) aNil)) (eTup (aCons (eCallT 2 F__law_rung (eVar 0) 1 (aCons (eVar 3) (aCons (eC (.int 2)) aNil))) aNil))) aNil))))))
def F__law_ladder := runT 6 B__law_ladder


def B_rung_pieces : SS :=
    (sSeq (sIf (bOf (eBin eqD (eBin ixD (eVar 1) (eC (.int 0))) (eC (.str "fixed")))) (sRet (eCall 2 F_fixed_pieces (aCons (eVar 0) (aCons (eBin ixD (eVar 1) (eC (.int 1))) aNil)))) sPass)
    (sRet (eCall 3 F_share_pieces (aCons (eVar 0) (aCons (eBin ixD (eVar 1) (eC (.int 1))) (aCons (eBin ixD (eVar 1) (eC (.int 2))) aNil))))))
def F_rung_pieces := runP 2 B_rung_pieces

def cE_pieces_of_2 : SE :=
    (eTup (aCons (eVar 2) (aCons (eVar 4) (aCons (eVar 5) aNil))))
def lB_pieces_of_1 : SS :=
    (sSeq (sExt 1 (lComp (iSeq (eCall 2 F_rung_pieces (aCons (eBin ixD (eVar 0) (eC (.int 0))) (aCons (eVar 3) aNil)))) (gTu 2 (gsCons (gN 4) (gsCons (gN 5) gsNil))) bYes cE_pieces_of_2 [4, 5]))
    (sIf (bOf (eCall 1 F_is_endless (aCons (eVar 3) aNil))) (fun ρ W => (sRet (eVar 1)) (frzS 1 ρ) W) sPass))
def B_pieces_of : SS :=
    (sSeq (sOwn 1 (lLst aNil))
    (sSeq (sFor (iEnum' (aCons (eBin ixD (eVar 0) (eC (.int 1))) aNil)) (gTu 2 (gsCons (gN 2) (gsCons (gN 3) gsNil))) lB_pieces_of_1)
    (fun ρ W => (sRet (eVar 1)) (frzS 1 ρ) W)))
def F_pieces_of := runP 6 B_pieces_of

def lB_found_bends_1 : SS :=
    (sSeq (sIf (bOr (bOf (eBin eqD (eBor 2) (eFrz (lLst aNil)))) (bOf (eBin neD (eBin ixD (eBin ixD (eBor 2) (eUn negD (eC (.int 1)))) (eC (.int 2))) (eBin ixD (eVar 7) (eVar 1))))) (sApp 2 (eTup (aCons (eVar 3) (aCons (eVar 4) (aCons (eBin ixD (eVar 7) (eVar 1)) aNil))))) sPass)
    (sIf (bOf (eBin isNotD (eVar 6) (eC .none))) (sSeq (sAsg 3 (eCall 2 F_plus (aCons (eVar 3) (aCons (eVar 6) aNil))))
    (sAsg 4 (eCall 2 F_plus (aCons (eVar 4) (aCons (eCall 2 F_product (aCons (eVar 6) (aCons (eBin ixD (eVar 7) (eVar 1)) aNil))) aNil))))) sPass))
def B_found_bends : SS :=
    (sSeq (sPar [2, 3, 4] (mL (lLst aNil) (mD (eC (PyData.tuple [.int 0, .int 1])) (mD (eC (PyData.tuple [.int 0, .int 1])) mNil))))
    (sSeq (sFor (iSeq (eCall 1 F_pieces_of (aCons (eVar 0) aNil))) (gTu 3 (gsCons (gN 5) (gsCons (gN 6) (gsCons (gN 7) gsNil)))) lB_found_bends_1)
    (fun ρ W => (sRet (eVar 2)) (frzS 2 ρ) W)))
def F_found_bends := runP 8 B_found_bends

def cE_all_payments_1 : SE :=
    (eCall 2 F_payment_at (aCons (eCall 2 F_found_bends (aCons (eVar 0) (aCons (eVar 2) aNil))) (aCons (eVar 1) aNil)))
def B_all_payments : SS :=
    (sRet (eCB tupleD (aCons (eFrz (lComp (iRng (aCons (eBin ixD (eVar 0) (eC (.int 0))) aNil)) (gN 2) bYes cE_all_payments_1 [2])) aNil)))
def F_all_payments := runP 3 B_all_payments
























end Sx

namespace Sx
open PySem PySem.Spec PyProof.Rows L2
/-! ### evaluation of the semantic functions, for simp -/
section
variable {ρ : Sl} {W : Tw} {i n : Nat} {e e1 e2 a b c k : SE} {as f : SA} {x : Dt}
@[simp] theorem eVar_s : eVar i ρ W = (match ρ[i]? with | some (some (.d x)) => .ok (x, W) | _ => .bad) := rfl
@[simp] theorem eBor_s : eBor i ρ W = (match ρ[i]? with | some (some (.d x)) => .ok (x, W) | some (some (.own xs)) => .ok (.list xs, W) | _ => .bad) := rfl
@[simp] theorem eC_s : eC x ρ W = .ok (x, W) := rfl
@[simp] theorem eBin_s {g} : eBin g a b ρ W = (a ρ W).bind fun p => (b ρ p.2).bind fun q => ofO (g p.1 q.1) q.2 := rfl
@[simp] theorem eUn_s {g} : eUn g a ρ W = (a ρ W).bind fun p => ofO (g p.1) p.2 := rfl
@[simp] theorem aNil_s : aNil ρ W = .ok ([], W) := rfl
@[simp] theorem aCons_s : aCons e as ρ W = (e ρ W).bind fun p => (as ρ p.2).bind fun q => .ok (p.1 :: q.1, q.2) := rfl
@[simp] theorem eTup_s : eTup as ρ W = (as ρ W).bind fun p => if p.1.length ≤ 100000 then .ok (.tuple p.1, p.2) else .bad := rfl
@[simp] theorem lLst_s : lLst as ρ W = (as ρ W).bind fun p => if p.1.length ≤ 100000 then .ok p else .bad := rfl
@[simp] theorem eFrz_s : eFrz f ρ W = (f ρ W).bind fun p => .ok (.list p.1, p.2) := rfl
@[simp] theorem eCB_s {g} : eCB g as ρ W = (as ρ W).bind fun p => ofO (g p.1) p.2 := rfl
@[simp] theorem lCB_s {g} : lCB g as ρ W = (as ρ W).bind fun p => ofO (g p.1) p.2 := rfl
@[simp] theorem bOf_s : bOf e ρ W = (e ρ W).bind fun p => ofO (asB p.1) p.2 := rfl
@[simp] theorem bAnd_s {a b : SB} : bAnd a b ρ W = (a ρ W).bind fun p => if p.1 = true then b ρ p.2 else .ok (false, p.2) := rfl
@[simp] theorem bOr_s {a b : SB} : bOr a b ρ W = (a ρ W).bind fun p => if p.1 = true then .ok (true, p.2) else b ρ p.2 := rfl
@[simp] theorem bNot_s {a : SB} : bNot a ρ W = (a ρ W).bind fun p => .ok (!p.1, p.2) := rfl
@[simp] theorem eAnd_s : eAnd a b ρ W = (bOf a ρ W).bind fun p => if p.1 = true then b ρ p.2 else .ok (.bool false, p.2) := rfl
@[simp] theorem eNot_s : eNot a ρ W = (bOf a ρ W).bind fun p => .ok (.bool (!p.1), p.2) := rfl
@[simp] theorem eIf_s {c : SB} : eIf c a b ρ W = (c ρ W).bind fun p => if p.1 = true then a ρ p.2 else b ρ p.2 := rfl
@[simp] theorem eChain_s {g g'} : eChain g g' a b c ρ W = (a ρ W).bind fun p => (b ρ p.2).bind fun q => (ofO ((g p.1 q.1).bind asB) q.2).bind fun k =>
  if k.1 = true then (c ρ q.2).bind fun r => ofO (g' q.1 r.1) r.2 else .ok (.bool false, q.2) := rfl
@[simp] theorem ofO_some {α : Type} {a : α} : ofO (some a) W = .ok (a, W) := rfl
@[simp] theorem ofO_none {α : Type} : ofO (none : Option α) W = .bad := rfl
@[simp] theorem asB_bool {b : Bool} : asB (.bool b) = some b := rfl
@[simp] theorem eSlice_s {lo hi : SO} : eSlice e lo hi ρ W = (e ρ W).bind fun p => (lo ρ p.2).bind fun l => (hi ρ l.2).bind fun h => ofO (sliceD p.1 l.1 h.1) h.2 := rfl
@[simp] theorem oNone_s : oNone ρ W = .ok (none, W) := rfl
@[simp] theorem oSome_s : oSome e ρ W = (e ρ W).bind fun p => ofO ((asI p.1).map some) p.2 := rfl
@[simp] theorem asI_int {i : Int} : asI (.int i) = some i := rfl
@[simp] theorem lBin_s {g} : lBin g a b ρ W = (a ρ W).bind fun p => (b ρ p.2).bind fun q => ofO (g p.1 q.1) q.2 := rfl
@[simp] theorem eCall_s {Fs} : eCall n Fs as ρ W = (as ρ W).bind fun p => if p.1.length = n then resT (Fs p.1) p.2 else .bad := rfl
@[simp] theorem lCall_s {Fs} : lCall n Fs as ρ W = (as ρ W).bind fun p => if p.1.length = n then resT (Fs p.1) p.2 else .bad := rfl
@[simp] theorem resT_ok {α : Type} {r : α} : resT (.ok r) W = .ok (r, W) := rfl
@[simp] theorem twnT_ok {r : Dt × List Dt} : twnT (.ok r) = .ok (r.1, some r.2) := rfl
@[simp] theorem eCallT_s {Fs} : eCallT n Fs e i as ρ W = (e ρ W).bind fun p => match ρ[i]? with
  | some (some .town) => (as ρ p.2).bind fun q => match q.2 with
    | some ws => if q.1.length = n then twnT (Fs (p.1 :: q.1) ws) else .bad
    | none => .bad
  | _ => .bad := rfl
@[simp] theorem iSeq_s : iSeq e ρ W = (e ρ W).bind fun p => ofO (seqOf p.1) p.2 := rfl
@[simp] theorem seqOf_list {ds} : seqOf (.list ds) = some ds := rfl
@[simp] theorem seqOf_tuple {ds} : seqOf (.tuple ds) = some ds := rfl
@[simp] theorem iRng_s : iRng as ρ W = (as ρ W).bind fun p => ofO (rngOf p.1) p.2 := rfl
@[simp] theorem iEnum_s : iEnum' as ρ W = (as ρ W).bind fun p => ofO (enumOf p.1) p.2 := rfl
@[simp] theorem iZip_s : iZip' as ρ W = (as ρ W).bind fun p => ofO (zipOf p.1) p.2 := rfl
@[simp] theorem enumOf_list {ds} : enumOf [.list ds] = some (enumD 0 ds) := rfl
@[simp] theorem enumOf_tuple {ds} : enumOf [.tuple ds] = some (enumD 0 ds) := rfl
@[simp] theorem zipOf_ll {a b} : zipOf [.list a, .list b] = some (zipD a b) := rfl
@[simp] theorem zipOf_lt {a b} : zipOf [.list a, .tuple b] = some (zipD a b) := rfl
@[simp] theorem zipOf_tl {a b} : zipOf [.tuple a, .list b] = some (zipD a b) := rfl
@[simp] theorem zipOf_tt {a b} : zipOf [.tuple a, .tuple b] = some (zipD a b) := rfl
@[simp] theorem gN_s {d : Dt} : gN i d ρ = if i < ρ.length then some (ρ.set i (some (.d d))) else none := rfl
@[simp] theorem gsNil_s : gsNil [] ρ = some ρ := rfl
@[simp] theorem gsCons_s {g : SG} {gs : SGs} {d : Dt} {ds} : gsCons g gs (d :: ds) ρ = (g d ρ).bind (gs ds) := rfl
@[simp] theorem gTu_s {gs : SGs} {ds : List Dt} : gTu n gs (.tuple ds) ρ = if ds.length = n then gs ds ρ else none := rfl
@[simp] theorem lComp_s {it : SA} {g : SG} {c : SB} {vs} : lComp it g c e vs ρ W = (it ρ W).bind fun p => if p.1.length ≤ 100000 ∧ wipeOk ρ vs = true then cL g c e (wipeS ρ vs) p.1 p.2 else .bad := rfl
@[simp] theorem bYes_s : bYes ρ W = .ok (true, W) := rfl
@[simp] theorem cL_nil {g : SG} {c : SB} : cL g c e ρ [] W = .ok ([], W) := rfl
@[simp] theorem wipeS_nil : wipeS ρ [] = ρ := rfl
@[simp] theorem wipeS_cons {v vs} : wipeS ρ (v :: vs) = (wipeS ρ vs).set v none := rfl
@[simp] theorem sPass_s : sPass ρ W = .nx ρ W := rfl
@[simp] theorem sSeq_s {a b : SS} : sSeq a b ρ W = (match a ρ W with | .nx ρ1 W1 => b ρ1 W1 | r => r) := rfl
@[simp] theorem sExpr_s : sExpr e ρ W = rOut (e ρ W) fun _ W1 => .nx ρ W1 := rfl
@[simp] theorem sRet_s : sRet e ρ W = rOut (e ρ W) fun d W1 => .rt (.d d) W1 := rfl
@[simp] theorem sRetL_s : sRetL f ρ W = rOut (f ρ W) fun ds W1 => .rt (.own ds) W1 := rfl
@[simp] theorem sAsg_s : sAsg i e ρ W = rOut (e ρ W) fun d W1 => if i < ρ.length then .nx (ρ.set i (some (.d d))) W1 else .bad := rfl
@[simp] theorem sAsgG_s {g : SG} : sAsgG g e ρ W = rOut (e ρ W) fun d W1 => match g d ρ with | some ρ' => .nx ρ' W1 | none => .bad := rfl
@[simp] theorem sOwn_s : sOwn i f ρ W = rOut (f ρ W) fun ds W1 => if i < ρ.length then .nx (ρ.set i (some (.own ds))) W1 else .bad := rfl
@[simp] theorem sTown_s : sTown i f ρ W = rOut (f ρ W) fun ds W1 => if i < ρ.length ∧ W1 = none then .nx (ρ.set i (some .town)) (some ds) else .bad := rfl
@[simp] theorem sIf_s {c : SB} {a b : SS} : sIf c a b ρ W = rOut (c ρ W) fun k W1 => if k = true then a ρ W1 else b ρ W1 := rfl
@[simp] theorem sFor_s {it : SA} {g : SG} {body : SS} : sFor it g body ρ W = rOut (it ρ W) fun ds W1 => fL g body ds ρ W1 := rfl
@[simp] theorem fL_nil {g : SG} {body : SS} : fL g body [] ρ W = .nx ρ W := rfl
@[simp] theorem fL_cons {g : SG} {body : SS} {d ds} : fL g body (d :: ds) ρ W = (match g d ρ with | none => .bad | some ρ1 => match body ρ1 W with | .nx ρ2 W2 => fL g body ds ρ2 W2 | r => r) := rfl
@[simp] theorem sApp_s : sApp i e ρ W = (match ρ[i]? with | some (some (.own xs)) => rOut (e ρ W) fun d W1 => if xs.length < 100000 then .nx (ρ.set i (some (.own (xs ++ [d])))) W1 else .bad | _ => .bad) := rfl
@[simp] theorem sExt_s : sExt i f ρ W = (match ρ[i]? with | some (some (.own xs)) => rOut (f ρ W) fun ds W1 => if xs.length + ds.length ≤ 100000 then .nx (ρ.set i (some (.own (xs ++ ds)))) W1 else .bad | _ => .bad) := rfl
@[simp] theorem sSet_s : sSet i k e ρ W = (match ρ[i]? with | some (some (.own xs)) => rOut (e ρ W) fun d W1 => rOut (k ρ W1) fun kd W2 => nxO i (setD xs kd d) ρ W2 | _ => .bad) := rfl
@[simp] theorem sSetT_s : sSetT i k e ρ W = (match ρ[i]? with | some (some .town) => rOut (e ρ W) fun d W1 => rOut (k ρ W1) fun kd W2 => (match W2 with | some ws => nxT (setD ws kd d) ρ | none => .bad) | _ => .bad) := rfl
@[simp] theorem nxO_some {ys} : nxO i (some ys) ρ W = .nx (ρ.set i (some (.own ys))) W := rfl
@[simp] theorem nxT_some {ys} : nxT (some ys) ρ = .nx ρ (some ys) := rfl
@[simp] theorem eIxT_s : eIxT i k ρ W = (match ρ[i]? with | some (some .town) => (k ρ W).bind fun p => (match p.2 with | some ws => ofO (ixD (.list ws) p.1) p.2 | none => .bad) | _ => .bad) := rfl
@[simp] theorem mNil_s : mNil ρ W = .ok ([], W) := rfl
@[simp] theorem mD_s {m : SM} : mD e m ρ W = (e ρ W).bind fun p => (m ρ p.2).bind fun q => .ok (.d p.1 :: q.1, q.2) := rfl
@[simp] theorem mL_s {m : SM} : mL f m ρ W = (f ρ W).bind fun p => (m ρ p.2).bind fun q => .ok (.own p.1 :: q.1, q.2) := rfl
@[simp] theorem setM_nil : setM [] [] ρ = some ρ := rfl
@[simp] theorem setM_cons {is sv svs} : setM (i :: is) (sv :: svs) ρ = if i < ρ.length then setM is svs (ρ.set i (some sv)) else none := rfl
@[simp] theorem sPar_s {is} {m : SM} : sPar is m ρ W = rOut (m ρ W) fun svs W1 => match setM is svs ρ with | some ρ' => .nx ρ' W1 | none => .bad := rfl
@[simp] theorem kDict_s : kDict e ρ W = (e ρ W).bind fun p => ofO (dictOf p.1) p.2 := rfl
@[simp] theorem eDin_s : eDin i k ρ W = (k ρ W).bind fun p => ofO ((inDk ρ i p.1).map PyData.bool) p.2 := rfl
@[simp] theorem eDnin_s : eDnin i k ρ W = (k ρ W).bind fun p => ofO ((inDk ρ i p.1).map fun b => PyData.bool (!b)) p.2 := rfl
@[simp] theorem eDget_s : eDget i k ρ W = (match dkAt ρ i with | some kvs => (k ρ W).bind fun p => ofO (getDk kvs p.1) p.2 | none => .bad) := rfl
@[simp] theorem iDk_s : iDk i ρ W = (match ρ[i]? with | some (some (.fd kvs)) => .ok (kvs.map (fun kv => PyData.int kv.1), W) | _ => .bad) := rfl
@[simp] theorem lLock_s : lLock i f ρ W = (match ρ[i]? with | some (some (.dk kvs)) => nox (f (ρ.set i (some (.fd kvs))) W) | _ => .bad) := rfl
@[simp] theorem sDk_s {f : SK} : sDk i f ρ W = rOut (f ρ W) fun kvs W1 => if i < ρ.length then .nx (ρ.set i (some (.dk kvs))) W1 else .bad := rfl
@[simp] theorem dkAt_s : dkAt ρ i = (match ρ[i]? with | some (some (.dk kvs)) => some kvs | some (some (.fd kvs)) => some kvs | _ => none) := rfl
@[simp] theorem inDk_s {d : Dt} : inDk ρ i d = (match dkAt ρ i, d with | some kvs, .int k => some (valD kvs k).isSome | _, _ => none) := rfl
@[simp] theorem getDk_int {kvs} {k : Int} : getDk kvs (.int k) = valD kvs k := rfl
@[simp] theorem frzS_s : frzS i ρ = (match ρ[i]? with | some (some (.own xs)) => ρ.set i (some (.d (.list xs))) | _ => ρ) := rfl
@[simp] theorem runP_s {m : Nat} {B : SS} {ds : List Dt} : runP m B ds = (match B (start0 m ds) none with | .rt (.d x) _ => .ok x | .nx _ _ => .ok .none | .exc c => .exc c | _ => .bad) := rfl
@[simp] theorem runT_s {m : Nat} {B : SS} {ds ws : List Dt} : runT m B ds ws = (match B (startT m ds) (some ws) with | .rt (.d x) (some ws') => .ok (x, ws') | .nx _ (some ws') => .ok (.none, ws') | .exc c => .exc c | _ => .bad) := rfl
@[simp] theorem runL_s {m : Nat} {B : SS} {ds : List Dt} : runL m B ds = (match B (start0 m ds) none with | .rt (.own x) _ => .ok x | .exc c => .exc c | _ => .bad) := rfl
@[simp] theorem addD_i {a b : Int} : addD (.int a) (.int b) = some (.int (a + b)) := rfl
@[simp] theorem subD_i {a b : Int} : subD (.int a) (.int b) = some (.int (a - b)) := rfl
@[simp] theorem mulD_i {a b : Int} : mulD (.int a) (.int b) = if mulOk a b then some (.int (a * b)) else none := rfl
@[simp] theorem fdivD_i {a b : Int} : fdivD (.int a) (.int b) = if 0 < b ∧ b.natAbs.log2 < 9000 then some (.int (a / b)) else none := rfl
@[simp] theorem modD_i {a b : Int} : modD (.int a) (.int b) = if 0 < b then some (.int (a % b)) else none := rfl
@[simp] theorem negD_i {a : Int} : negD (.int a) = some (.int (-a)) := rfl
@[simp] theorem cmpD_i {p} {a b : Int} : cmpD p (.int a) (.int b) = some (.bool (p a b)) := rfl
@[simp] theorem ixD_t {ds : List Dt} {i : Int} : ixD (.tuple ds) (.int i) = atI ds i := rfl
@[simp] theorem ixD_l {ds : List Dt} {i : Int} : ixD (.list ds) (.int i) = atI ds i := rfl
@[simp] theorem atI_0 {α : Type} {x : α} {xs : List α} : atI (x :: xs) 0 = some x := by
  unfold atI ixN
  rw [if_pos (by omega), if_pos (by simp only [List.length_cons]; omega)]
  rfl
@[simp] theorem atI_1 {α : Type} {x y : α} {xs : List α} : atI (x :: y :: xs) 1 = some y := by
  unfold atI ixN
  rw [if_pos (by omega), if_pos (by simp only [List.length_cons]; omega)]
  rfl
@[simp] theorem atI_2 {α : Type} {x y z : α} {xs : List α} : atI (x :: y :: z :: xs) 2 = some z := by
  unfold atI ixN
  rw [if_pos (by omega), if_pos (by simp only [List.length_cons]; omega)]
  rfl
theorem atI_nat {α : Type} {xs : List α} {n : Nat} (h : n < xs.length) : atI xs (n : Int) = xs[n]? := by
  unfold atI ixN
  rw [if_pos (by omega), if_pos (by omega)]
  rfl
/-- the last item -/
theorem atI_last {α : Type} {xs : List α} {x : α} : atI (xs ++ [x]) (-1) = some x := by
  unfold atI ixN
  rw [if_neg (by omega), if_pos (by simp only [List.length_append, List.length_cons, List.length_nil]; omega)]
  have : ((-1 : Int) + ((xs ++ [x]).length : Int)).toNat = xs.length := by simp only [List.length_append, List.length_cons, List.length_nil]; omega
  rw [this]
  simp
@[simp] theorem absD_i {a : Int} : absD [.int a] = some (.int a.natAbs) := by
  show some (PyData.int (if a < 0 then -a else a)) = _
  congr 2
  split <;> omega
@[simp] theorem start0_s {m : Nat} {ds : List Dt} : start0 m ds = ds.map (fun x => some (.d x)) ++ List.replicate (m - ds.length) none := rfl
@[simp] theorem startT_s {m : Nat} {d : Dt} {ds : List Dt} : startT m (d :: ds) = some (.d d) :: some .town :: (ds.map (fun x => some (.d x)) ++ List.replicate (m - (ds.length + 2)) none) := rfl
end
end Sx

namespace Sx
open PySem PySem.Spec PyProof.Rows L2
/-! ### numbers -/
theorem log2_le {n k : Nat} (h : n < 2 ^ k) : n.log2 ≤ k := by
  by_cases h0 : n = 0
  · subst h0; exact Nat.le_trans (by decide) (Nat.zero_le k)
  · exact Nat.le_of_lt ((Nat.log2_lt h0).mpr h)
theorem mulOk_of {a b : Int} {j k : Nat} (ha : a.natAbs < 2 ^ j) (hb : b.natAbs < 2 ^ k) (h : j + k < 1000000) : mulOk a b = true := by
  unfold mulOk
  have := log2_le ha
  have := log2_le hb
  exact decide_eq_true (by omega)
@[simp] theorem shaped_int {i : Int} : SeqAt.shaped (.int i) = true := by rfl
@[simp] theorem shaped_none : SeqAt.shaped .none = true := by rfl
@[simp] theorem eqD_i {a b : Int} : eqD (.int a) (.int b) = some (.bool (a == b)) := by
  unfold eqD; rw [shaped_int, shaped_int]; rfl
@[simp] theorem neD_i {a b : Int} : neD (.int a) (.int b) = some (.bool (!(a == b))) := by
  unfold neD; rw [shaped_int, shaped_int]; rfl
abbrev gB : SB := bOf (eBin neD (eVar 1) (eC (.int 0)))
abbrev gS : SS := sPar [0, 1] (mD (eVar 1) (mD (eBin modD (eVar 0) (eVar 1)) mNil))
theorem gcd_loop : ∀ (b n : Nat) (a : Int), b ≤ n → ∃ g : Int, g.natAbs = Nat.gcd a.natAbs b ∧ wL gB gS (n + 1) [some (.d (.int a)), some (.d (.int b))] none = .nx [some (.d (.int g)), some (.d (.int 0))] none := by
  intro b
  induction b using Nat.strongRecOn with
  | _ b ih =>
    intro n a hb
    by_cases h0 : b = 0
    · subst h0
      exact ⟨a, by simp, by unfold wL; simp⟩
    · have hpos : (0 : Int) < (b : Int) := by omega
      have hlt : (a % (b : Int)).toNat < b := by
        have h1 := Int.emod_lt_of_pos a hpos
        have h2 := Int.emod_nonneg a (show (b : Int) ≠ 0 by omega)
        omega
      obtain ⟨m, rfl⟩ : ∃ m, n = m + 1 := ⟨n - 1, by omega⟩
      obtain ⟨g, hg, hw⟩ := ih _ hlt m (b : Int) (by omega)
      refine ⟨g, ?_, ?_⟩
      · rw [hg, Int.natAbs_natCast]
        have e : (a % (b : Int)).toNat = (a % (b : Int)).natAbs := by
          have h2 := Int.emod_nonneg a (show (b : Int) ≠ 0 by omega)
          omega
        rw [e, Nat.gcd_comm a.natAbs b]
        have := (Int.gcd_right_eq_iff (a := (b : Int)) (b := a % (b : Int)) (b' := a)).mpr fun c hc => by
          rw [Int.emod_def]
          constructor
          · intro h
            have := Int.dvd_add h (Int.dvd_trans hc (Int.dvd_mul_right (b : Int) (a / (b : Int))))
            rwa [Int.sub_add_cancel] at this
          · intro h
            exact Int.dvd_sub h (Int.dvd_trans hc (Int.dvd_mul_right _ _))
        unfold Int.gcd at this
        rw [Int.natAbs_natCast] at this
        exact this
      · have e : ((a % (b : Int)).toNat : Int) = a % (b : Int) := Int.toNat_of_nonneg (Int.emod_nonneg a (show (b : Int) ≠ 0 by omega))
        rw [e] at hw
        rw [← hw]
        conv => lhs; unfold wL
        simp [h0, show 0 < b by omega]
theorem divisor_ok (a : Int) (b : Nat) : F_divisor [.int a, .int b] = .ok (.int (Nat.gcd a.natAbs b)) := by
  obtain ⟨g, hg, hw⟩ := gcd_loop b b a (Nat.le_refl _)
  have hw' : sWhile (fuelI 1) gB gS [some (.d (.int a)), some (.d (.int b))] none = .nx [some (.d (.int g)), some (.d (.int 0))] none := by
    unfold sWhile fuelI
    simpa using hw
  have e : B_divisor (start0 2 [.int a, .int b]) none = .rt (.d (.int g.natAbs)) none := by
    show sSeq (sWhile (fuelI 1) gB gS) (sRet (eCB absD (aCons (eVar 0) aNil))) [some (.d (.int a)), some (.d (.int b))] none = _
    rw [sSeq_s, hw']
    simp
  unfold F_divisor runP
  rw [e, hg]
/-! fractions -/
def fr (q : Rat) : Dt := .tuple [.int q.num, .int q.den]
/-- few bits -/
def Bd (k : Nat) (q : Rat) : Prop := q.num.natAbs < 2 ^ k ∧ q.den < 2 ^ k
theorem Bd.mono {j k : Nat} {q : Rat} (h : Bd j q) (hk : j ≤ k) : Bd k q :=
  ⟨Nat.lt_of_lt_of_le h.1 (Nat.pow_le_pow_right (by decide) hk), Nat.lt_of_lt_of_le h.2 (Nat.pow_le_pow_right (by decide) hk)⟩
theorem mkRat_bd {n : Int} {d k : Nat} (hn : n.natAbs < 2 ^ k) (hd : d < 2 ^ k) (h0 : d ≠ 0) : Bd k (mkRat n d) := by
  constructor
  · rw [Rat.num_mkRat, if_neg h0]
    refine Nat.lt_of_le_of_lt ?_ hn
    rw [Int.natAbs_ediv_of_dvd (by
      have := Nat.gcd_dvd_right d n.natAbs
      exact Int.ofNat_dvd_left.mpr this)]
    exact Nat.div_le_self _ _
  · rw [Rat.den_mkRat, if_neg h0]
    exact Nat.lt_of_le_of_lt (Nat.div_le_self _ _) hd
theorem mul_lt_pow {a b j k : Nat} (ha : a < 2 ^ j) (hb : b < 2 ^ k) : a * b < 2 ^ (j + k) := by
  rw [Nat.pow_add]
  exact Nat.mul_lt_mul'' ha hb
theorem Bd.neg {k : Nat} {q : Rat} (h : Bd k q) : Bd k (-q) := ⟨by rw [Rat.neg_num, Int.natAbs_neg]; exact h.1, by rw [Rat.neg_den]; exact h.2⟩
theorem Bd.add {j k : Nat} {a b : Rat} (ha : Bd j a) (hb : Bd k b) : Bd (j + k + 1) (a + b) := by
  rw [Rat.add_def']
  have h1 := mul_lt_pow ha.1 hb.2
  have h2 := mul_lt_pow hb.1 ha.2
  have h3 := mul_lt_pow ha.2 hb.2
  refine mkRat_bd ?_ (Nat.lt_of_lt_of_le h3 (Nat.pow_le_pow_right (by decide) (by omega))) (Nat.mul_ne_zero a.den_nz b.den_nz)
  have h4 := Int.natAbs_add_le (a.num * (b.den : Int)) (b.num * (a.den : Int))
  rw [Int.natAbs_mul, Int.natAbs_mul, Int.natAbs_natCast, Int.natAbs_natCast] at h4
  rw [Nat.add_comm k j] at h2
  rw [Nat.pow_succ]
  omega
theorem Bd.mul {j k : Nat} {a b : Rat} (ha : Bd j a) (hb : Bd k b) : Bd (j + k) (a * b) := by
  rw [Rat.mul_def']
  refine mkRat_bd ?_ (mul_lt_pow ha.2 hb.2) (Nat.mul_ne_zero a.den_nz b.den_nz)
  rw [Int.natAbs_mul]
  exact mul_lt_pow ha.1 hb.1
theorem Bd.sub {j k : Nat} {a b : Rat} (ha : Bd j a) (hb : Bd k b) : Bd (j + k + 1) (a - b) := by
  rw [Rat.sub_eq_add_neg]
  exact ha.add hb.neg
theorem Bd.inv {k : Nat} {a : Rat} (ha : Bd k a) (hk : 0 < k) : Bd k a⁻¹ := by
  constructor
  · rw [Rat.num_inv, Int.natAbs_mul, Int.natAbs_natCast]
    by_cases h : a.num = 0
    · rw [h]; simp; exact Nat.two_pow_pos k
    · rw [Int.natAbs_sign_of_ne_zero h, Nat.one_mul]; exact ha.2
  · rw [Rat.den_inv]
    split
    · exact Nat.one_lt_two_pow (by omega)
    · exact ha.1
theorem Bd.div {j k : Nat} {a b : Rat} (ha : Bd j a) (hb : Bd k b) (hk : 0 < k) : Bd (j + k) (a / b) := by
  rw [Rat.div_def]
  exact ha.mul (hb.inv hk)
theorem Bd.nat {k n : Nat} (h : n < 2 ^ k) (hk : 0 < k) : Bd k (n : Rat) := ⟨h, Nat.one_lt_two_pow (by omega)⟩
theorem fraction_ok {a : Int} {b : Nat} (h0 : 0 < b) (hb : b < 2 ^ 9000) : F_fraction [.int a, .int b] = .ok (fr (mkRat a b)) := by
  have hg : 0 < Nat.gcd a.natAbs b := Nat.gcd_pos_of_pos_right _ h0
  have hl : (Nat.gcd a.natAbs b).log2 < 9000 := by
    rw [Nat.log2_lt (by omega)]
    exact Nat.lt_of_le_of_lt (Nat.le_of_dvd h0 (Nat.gcd_dvd_right _ _)) hb
  have hd : ((b / Nat.gcd a.natAbs b : Nat) : Int) = (b : Int) / (Nat.gcd a.natAbs b : Int) := by simp
  unfold F_fraction
  simp only [B_fraction]
  simp [divisor_ok, hg, hl, fr, Rat.num_mkRat, Rat.den_mkRat, show b ≠ 0 by omega, Nat.gcd_comm b a.natAbs]
end Sx

namespace Sx
open PySem PySem.Spec PyProof.Rows L2
theorem natAbs_lt {n m : Nat} (h : n < m) : (n : Int).natAbs < m := by rw [Int.natAbs_natCast]; exact h
theorem lt9 {n j k : Nat} (h : n < 2 ^ (j + k)) (hk : j + k ≤ 9000) : n < 2 ^ 9000 := Nat.lt_of_lt_of_le h (Nat.pow_le_pow_right (by decide) hk)
theorem mulOk_dd {a b : Rat} (ha : Bd 4000 a) (hb : Bd 4000 b) : mulOk (a.den : Int) (b.den : Int) = true := mulOk_of (j := 4000) (k := 4000) (natAbs_lt ha.2) (natAbs_lt hb.2) (by decide)
theorem mulOk_nd {a b : Rat} (ha : Bd 4000 a) (hb : Bd 4000 b) : mulOk a.num (b.den : Int) = true := mulOk_of (j := 4000) (k := 4000) ha.1 (natAbs_lt hb.2) (by decide)
theorem mulOk_dn {a b : Rat} (ha : Bd 4000 a) (hb : Bd 4000 b) : mulOk (a.den : Int) b.num = true := mulOk_of (j := 4000) (k := 4000) (natAbs_lt ha.2) hb.1 (by decide)
theorem mulOk_nn {a b : Rat} (ha : Bd 4000 a) (hb : Bd 4000 b) : mulOk a.num b.num = true := mulOk_of (j := 4000) (k := 4000) ha.1 hb.1 (by decide)
theorem den_lt {a b : Rat} (ha : Bd 4000 a) (hb : Bd 4000 b) : a.den * b.den < 2 ^ 9000 := lt9 (mul_lt_pow ha.2 hb.2) (by decide)
theorem den_pos2 {a b : Rat} : 0 < a.den * b.den := Nat.pos_of_ne_zero (Nat.mul_ne_zero a.den_nz b.den_nz)
theorem frac_dd {a b : Rat} {n : Int} (ha : Bd 4000 a) (hb : Bd 4000 b) : F_fraction [.int n, .int ((a.den : Int) * (b.den : Int))] = .ok (fr (mkRat n (a.den * b.den))) := by
  have := fraction_ok (a := n) den_pos2 (den_lt ha hb)
  rw [Int.natCast_mul] at this
  exact this
theorem plus_ok {a b : Rat} (ha : Bd 4000 a) (hb : Bd 4000 b) : F_plus [fr a, fr b] = .ok (fr (a + b)) := by
  rw [Rat.add_def']
  unfold F_plus
  simp only [B_plus]
  simp [fr, mulOk_nd ha hb, mulOk_nd hb ha, mulOk_dd ha hb, frac_dd ha hb]
theorem minus_ok {a b : Rat} (ha : Bd 4000 a) (hb : Bd 4000 b) : F_minus [fr a, fr b] = .ok (fr (a - b)) := by
  have h := plus_ok ha hb.neg
  rw [← Rat.sub_eq_add_neg] at h
  unfold F_minus
  simp only [B_minus]
  have e : fr (-b) = .tuple [.int (-b.num), .int b.den] := rfl
  rw [e] at h
  simp only [fr] at h ⊢
  simp [h]
theorem product_ok {a b : Rat} (ha : Bd 4000 a) (hb : Bd 4000 b) : F_product [fr a, fr b] = .ok (fr (a * b)) := by
  rw [Rat.mul_def']
  unfold F_product
  simp only [B_product]
  simp [fr, mulOk_nn ha hb, mulOk_dd ha hb, frac_dd ha hb]
theorem quot_eq {a b : Rat} (h : 0 < b) : a / b = mkRat (a.num * b.den) (a.den * b.num.natAbs) := by
  have hb : 0 < b.num := by
    have := (Rat.lt_iff 0 b).mp h
    simpa using this
  have e : a / b = Rat.divInt (a.num * (b.den : Int)) ((a.den : Int) * b.num) := by
    conv => lhs; rw [← Rat.num_divInt_den a, ← Rat.num_divInt_den b]
    rw [Rat.div_def, Rat.inv_divInt, Rat.divInt_mul_divInt]
  rw [e]
  have e2 : (a.den : Int) * b.num = ((a.den * b.num.natAbs : Nat) : Int) := by
    rw [Int.natCast_mul]
    congr 1
    omega
  rw [e2, Rat.divInt_ofNat]
theorem quotient_ok {a b : Rat} (ha : Bd 4000 a) (hb : Bd 4000 b) (h : 0 < b) : F_quotient [fr a, fr b] = .ok (fr (a / b)) := by
  have hbn : 0 < b.num := by
    have := (Rat.lt_iff 0 b).mp h
    simpa using this
  have hp : 0 < a.den * b.num.natAbs := Nat.mul_pos (Nat.pos_of_ne_zero a.den_nz) (by omega)
  have hl : a.den * b.num.natAbs < 2 ^ 9000 := lt9 (mul_lt_pow ha.2 hb.1) (by decide)
  have := fraction_ok (a := a.num * (b.den : Int)) hp hl
  rw [← quot_eq h, Int.natCast_mul, show ((b.num.natAbs : Nat) : Int) = b.num by omega] at this
  unfold F_quotient
  simp only [B_quotient]
  have e : fr a = .tuple [.int a.num, .int a.den] := rfl
  have e2 : fr b = .tuple [.int b.num, .int b.den] := rfl
  rw [e, e2]
  simp [mulOk_nd ha hb, mulOk_dn ha hb, this]
theorem is_less_ok {a b : Rat} (ha : Bd 4000 a) (hb : Bd 4000 b) : F_is_less [fr a, fr b] = .ok (.bool (decide (a < b))) := by
  unfold F_is_less
  simp only [B_is_less]
  simp [fr, mulOk_nd ha hb, mulOk_nd hb ha, Rat.lt_iff]
theorem lesser_ok {a b : Rat} (ha : Bd 4000 a) (hb : Bd 4000 b) : F_lesser [fr a, fr b] = .ok (fr (if b < a then b else a)) := by
  unfold F_lesser
  simp only [B_lesser]
  simp [is_less_ok hb ha]
  by_cases h : b < a <;> simp [h]
/-! the law's own -/
abbrev hB : SB := bOf (eBin gtD (eVar 3) (eC (.int 0)))
abbrev hS : SS := sPar [2, 3] (mD (eVar 3) (mD (eBin modD (eVar 2) (eVar 3)) mNil))
theorem lgcd_loop {x y : Option SV} : ∀ (b n a : Nat), b ≤ n → wL hB hS (n + 1) [x, y, some (.d (.int a)), some (.d (.int b))] none = .nx [x, y, some (.d (.int (Nat.gcd a b))), some (.d (.int 0))] none := by
  intro b
  induction b using Nat.strongRecOn with
  | _ b ih =>
    intro n a hb
    by_cases h0 : b = 0
    · subst h0
      unfold wL; simp
    · have hlt : a % b < b := Nat.mod_lt _ (by omega)
      obtain ⟨m, rfl⟩ : ∃ m, n = m + 1 := ⟨n - 1, by omega⟩
      have hw := ih _ hlt m b (by omega)
      have e : Nat.gcd b (a % b) = Nat.gcd a b := by rw [Nat.gcd_comm b, ← Nat.gcd_rec, Nat.gcd_comm]
      rw [e] at hw
      rw [← hw]
      conv => lhs; unfold wL
      simp [show 0 < b by omega]
theorem lfrac_ok {a : Int} {b : Nat} (h0 : 0 < b) (hb : b < 2 ^ 9000) : F__law_frac [.int a, .int b] = .ok (fr (mkRat a b)) := by
  have hg : 0 < Nat.gcd b a.natAbs := Nat.gcd_pos_of_pos_left _ h0
  have hl : (Nat.gcd b a.natAbs).log2 < 9000 := by
    rw [Nat.log2_lt (by omega)]
    exact Nat.lt_of_le_of_lt (Nat.le_of_dvd h0 (Nat.gcd_dvd_left _ _)) hb
  have hw : sWhile (fuelI 3) hB hS [some (.d (.int a)), some (.d (.int b)), some (.d (.int b)), some (.d (.int a.natAbs))] none = .nx [some (.d (.int a)), some (.d (.int b)), some (.d (.int (Nat.gcd b a.natAbs))), some (.d (.int 0))] none := by
    unfold sWhile fuelI
    have := lgcd_loop (x := some (.d (.int a))) (y := some (.d (.int b))) a.natAbs a.natAbs b (Nat.le_refl _)
    simpa using this
  have e : B__law_frac (start0 4 [.int a, .int b]) none = .rt (.d (fr (mkRat a b))) none := by
    show sSeq (sPar [2, 3] (mD (eVar 1) (mD (eCB absD (aCons (eVar 0) aNil)) mNil))) (sSeq (sWhile (fuelI 3) hB hS) (sRet (eTup (aCons (eBin fdivD (eVar 0) (eVar 2)) (aCons (eBin fdivD (eVar 1) (eVar 2)) aNil))))) [some (.d (.int a)), some (.d (.int b)), none, none] none = _
    have e1 : sPar [2, 3] (mD (eVar 1) (mD (eCB absD (aCons (eVar 0) aNil)) mNil)) [some (.d (.int a)), some (.d (.int b)), none, none] none = .nx [some (.d (.int a)), some (.d (.int b)), some (.d (.int b)), some (.d (.int a.natAbs))] none := by simp
    rw [sSeq_s, e1]
    simp only
    rw [sSeq_s, hw]
    simp [hg, hl, fr, Rat.num_mkRat, Rat.den_mkRat, show b ≠ 0 by omega]
  unfold F__law_frac runP
  rw [e]
end Sx

/-! plain mathematics: pieces of rungs, levels that shares fill -/
namespace Mx
def lk {β : Type} : List (Nat × β) → Nat → Option β
  | [], _ => none
  | (k, v) :: r, h => if k = h then some v else lk r h
abbrev Dis {β : Type} (A : List (Nat × β)) : Prop := A.Pairwise (fun a b => a.1 ≠ b.1)
section
variable {β : Type}
theorem lk_mem : ∀ {A : List (Nat × β)} {h : Nat} {v : β}, lk A h = some v → (h, v) ∈ A
  | [], _, _, e => by cases e
  | (k, u) :: r, h, v, e => by
    unfold lk at e
    split at e
    · rename_i hk; cases e; subst hk; exact List.mem_cons_self ..
    · exact List.mem_cons_of_mem _ (lk_mem e)
theorem lk_none : ∀ {A : List (Nat × β)} {h : Nat}, lk A h = none ↔ ∀ p ∈ A, p.1 ≠ h
  | [], _ => by simp [lk]
  | (k, u) :: r, h => by
    unfold lk
    by_cases hk : k = h
    · simp [hk]
    · rw [if_neg hk, lk_none]; simp [hk]
theorem mem_lk : ∀ {A : List (Nat × β)} {p : Nat × β}, Dis A → p ∈ A → lk A p.1 = some p.2
  | [], _, _, h => by cases h
  | (k, u) :: r, p, d, h => by
    have d' := List.pairwise_cons.mp d
    unfold lk
    rcases List.mem_cons.mp h with e | e
    · subst e; simp
    · rw [if_neg (d'.1 p e)]; exact mem_lk d'.2 e
theorem lk_filter {A : List (Nat × β)} (d : Dis A) (q : Nat × β → Bool) (h : Nat) : lk (A.filter q) h = (lk A h).bind fun v => if q (h, v) then some v else none := by
  cases e : lk A h with
  | none =>
    show lk (A.filter q) h = none
    rw [lk_none] at e ⊢
    exact fun p hp => e p (List.mem_filter.mp hp).1
  | some v =>
    have hm := lk_mem e
    show _ = if q (h, v) = true then some v else none
    by_cases hq : q (h, v) = true
    · rw [if_pos hq]
      exact mem_lk (p := (h, v)) (List.Pairwise.filter _ d) (List.mem_filter.mpr ⟨hm, hq⟩)
    · rw [if_neg hq, lk_none]
      intro p hp e2
      have h1 := List.mem_filter.mp hp
      have h2 := mem_lk d h1.1
      rw [e2, e] at h2
      cases h2
      apply hq
      have : p = (h, p.2) := by rw [← e2]
      rw [← this]
      exact h1.2
theorem lk_map {γ : Type} (f : Nat → β → γ) : ∀ (A : List (Nat × β)) (h : Nat), lk (A.map fun p => (p.1, f p.1 p.2)) h = (lk A h).map (f h)
  | [], _ => rfl
  | (k, u) :: r, h => by
    show (if k = h then some (f k u) else lk (r.map _) h) = (if k = h then some u else lk r h).map (f h)
    by_cases hk : k = h
    · rw [if_pos hk, if_pos hk, hk]; rfl
    · rw [if_neg hk, if_neg hk]; exact lk_map f r h
theorem dis_map {γ : Type} (f : Nat → β → γ) {A : List (Nat × β)} (d : Dis A) : Dis (A.map fun p => (p.1, f p.1 p.2)) := by
  unfold Dis
  rw [List.pairwise_map]
  exact d
end
/-! sums -/
def sm (A : List (Nat × Nat)) (f : Nat → Rat) : Rat := (A.map fun p => f p.1).sum
def wsum (A : List (Nat × Nat)) : Nat := (A.map (·.2)).sum
theorem sm_nil (f) : sm [] f = 0 := rfl
theorem sm_cons (p A f) : sm (p :: A) f = f p.1 + sm A f := by unfold sm; rw [List.map_cons, List.sum_cons]
theorem sm_congr {A : List (Nat × Nat)} {f g : Nat → Rat} (h : ∀ p ∈ A, f p.1 = g p.1) : sm A f = sm A g := by
  induction A with
  | nil => rfl
  | cons p A ih => rw [sm_cons, sm_cons, h p (by simp), ih fun q hq => h q (List.mem_cons_of_mem _ hq)]
theorem wsum_cons (p : Nat × Nat) (A) : wsum (p :: A) = p.2 + wsum A := by unfold wsum; rw [List.map_cons, List.sum_cons]
theorem wsum_pos {A : List (Nat × Nat)} (hw : ∀ p ∈ A, 0 < p.2) (h : A ≠ []) : 0 < wsum A := by
  cases A with
  | nil => exact absurd rfl h
  | cons p A => rw [wsum_cons]; have := hw p (by simp); omega
/-! rates, levels, pieces -/
def rt (A : List (Nat × Nat)) (W : Rat) (h : Nat) : Rat := match lk A h with
  | some w => (w : Rat) / W
  | none => 0
def wv (A : List (Nat × Nat)) (c : Rat) (h : Nat) : Rat := match lk A h with
  | some w => (w : Rat) * c
  | none => 0
theorem wv_mem {A : List (Nat × Nat)} {c : Rat} {p : Nat × Nat} (d : Dis A) (h : p ∈ A) : wv A c p.1 = (p.2 : Rat) * c := by unfold wv; rw [mem_lk d h]
theorem sm_w {A : List (Nat × Nat)} (d : Dis A) (c : Rat) : ∀ {B : List (Nat × Nat)}, (∀ p ∈ B, p ∈ A) → sm B (wv A c) = (wsum B : Rat) * c
  | [], _ => by rw [sm_nil]; show (0 : Rat) = ((0 : Nat) : Rat) * c; grind
  | p :: B, h => by
    rw [sm_cons, sm_w d c (fun q hq => h q (List.mem_cons_of_mem _ hq)), wv_mem d (h p (by simp)), wsum_cons, Rat.natCast_add]
    grind
theorem sm_rt {A : List (Nat × Nat)} (d : Dis A) {W : Rat} (hW : W = (wsum A : Rat)) (h0 : 0 < W) : sm A (rt A W) = 1 := by
  have e : rt A W = wv A W⁻¹ := by
    funext h; unfold rt wv; cases lk A h <;> rfl
  rw [e, sm_w d _ (fun _ h => h), ← hW]
  exact Rat.mul_inv_cancel W (by grind)
/-- what a holder has at a level -/
def mf (A : List (Nat × Nat)) (L : List (Nat × Rat)) (t : Rat) (h : Nat) : Rat := match lk A h with
  | none => 0
  | some w => match lk L h with
    | none => (w : Rat) * t
    | some c => if c ≤ (w : Rat) * t then c else (w : Rat) * t
theorem mul_mono {w : Nat} {t t' : Rat} (h : t ≤ t') : (w : Rat) * t ≤ (w : Rat) * t' := Rat.mul_le_mul_of_nonneg_left h Rat.natCast_nonneg
abbrev Pc := Option Rat × (Nat → Rat)
def ev : List Pc → Rat → Nat → Rat
  | [], _, _ => 0
  | (none, r) :: _, x, h => r h * x
  | (some l, r) :: ps, x, h => if x ≤ l then r h * x else r h * l + ev ps (x - l) h
def lenOf (L : List (Nat × Rat)) (W : Rat) : List (Nat × Nat) → Option Rat → Option Rat
  | [], o => o
  | (h, w) :: A, o => lenOf L W A (match lk L h with
    | none => o
    | some c => some (match o with
      | none => c / ((w : Rat) / W)
      | some l => if c / ((w : Rat) / W) < l then c / ((w : Rat) / W) else l))
def lowL (L : List (Nat × Rat)) (r : Nat → Rat) (l : Rat) : List (Nat × Rat) := L.map fun p => (p.1, p.2 - l * r p.1)
def keepA (L : List (Nat × Rat)) (A : List (Nat × Nat)) : List (Nat × Nat) := A.filter fun p => match lk L p.1 with
  | none => true
  | some c => decide (c ≠ 0)
def keepL (L : List (Nat × Rat)) : List (Nat × Rat) := L.filter fun p => decide (p.2 ≠ 0)
def spGo : Nat → List (Nat × Nat) → List (Nat × Rat) → List Pc
  | 0, _, _ => []
  | n + 1, A, L => if A = [] then [] else match lenOf L (wsum A : Rat) A none with
    | none => [(none, rt A (wsum A : Rat))]
    | some l => (some l, rt A (wsum A : Rat)) :: spGo n (keepA (lowL L (rt A (wsum A : Rat)) l) A) (keepL (lowL L (rt A (wsum A : Rat)) l))
structure St (A : List (Nat × Nat)) (L : List (Nat × Rat)) : Prop where
  dA : Dis A
  dL : Dis L
  wp : ∀ p ∈ A, 0 < p.2
  lp : ∀ p ∈ L, 0 < p.2
  sub : ∀ p ∈ L, ∃ q ∈ A, q.1 = p.1
theorem lenOf_spec {L : List (Nat × Rat)} {W : Rat} : ∀ {A : List (Nat × Nat)} {o r : Option Rat}, lenOf L W A o = r →
    (r = none → o = none ∧ ∀ p ∈ A, lk L p.1 = none) ∧
    (∀ l, r = some l → (∀ l0, o = some l0 → l ≤ l0) ∧ (∀ p ∈ A, ∀ c, lk L p.1 = some c → l ≤ c / ((p.2 : Rat) / W)) ∧
      (o = some l ∨ ∃ p ∈ A, ∃ c, lk L p.1 = some c ∧ l = c / ((p.2 : Rat) / W)))
  | [], o, r, e => by
    have e : o = r := e
    subst e
    refine ⟨fun h => ⟨h, fun p hp => (by cases hp)⟩, fun l h => ⟨fun l0 h0 => (by rw [h] at h0; cases h0; exact Rat.le_refl), fun p hp => (by cases hp), .inl h⟩⟩
  | (h, w) :: A, o, r, e => by
    unfold lenOf at e
    obtain ⟨i1, i2⟩ := lenOf_spec (A := A) e
    cases hl : lk L h with
    | none =>
      simp only [hl] at i1 i2
      refine ⟨fun hr => ⟨(i1 hr).1, fun p hp => ?_⟩, fun l hr => ⟨(i2 l hr).1, fun p hp c hc => ?_, ?_⟩⟩
      · rcases List.mem_cons.mp hp with z | z
        · subst z; exact hl
        · exact (i1 hr).2 p z
      · rcases List.mem_cons.mp hp with z | z
        · subst z; rw [hl] at hc; cases hc
        · exact (i2 l hr).2.1 p z c hc
      · rcases (i2 l hr).2.2 with z | ⟨p, hp, c, h1, h2⟩
        · exact .inl z
        · exact .inr ⟨p, List.mem_cons_of_mem _ hp, c, h1, h2⟩
    | some c0 =>
      simp only [hl] at i1 i2
      refine ⟨fun hr => (by cases (i1 hr).1), fun l hr => ?_⟩
      obtain ⟨j1, j2, j3⟩ := i2 l hr
      have j1' := j1 _ rfl
      cases o with
      | none =>
        simp only at j1' j3
        refine ⟨fun l0 h0 => (by cases h0), fun p hp c hc => ?_, ?_⟩
        · rcases List.mem_cons.mp hp with z | z
          · subst z; rw [hl] at hc; cases hc; exact j1'
          · exact j2 p z c hc
        · rcases j3 with z | ⟨p, hp, c, h1, h2⟩
          · cases z; exact .inr ⟨(h, w), by simp, c0, hl, rfl⟩
          · exact .inr ⟨p, List.mem_cons_of_mem _ hp, c, h1, h2⟩
      | some l1 =>
        simp only at j1' j3
        refine ⟨fun l0 h0 => (by cases h0; split at j1' <;> grind), fun p hp c hc => ?_, ?_⟩
        · rcases List.mem_cons.mp hp with z | z
          · subst z; rw [hl] at hc; cases hc; split at j1' <;> grind
          · exact j2 p z c hc
        · rcases j3 with z | ⟨p, hp, c, h1, h2⟩
          · by_cases hlt : c0 / ((w : Rat) / W) < l1
            · rw [if_pos hlt] at z; cases z; exact .inr ⟨(h, w), by simp, c0, hl, rfl⟩
            · rw [if_neg hlt] at z; exact .inl z
          · exact .inr ⟨p, List.mem_cons_of_mem _ hp, c, h1, h2⟩
theorem div_pos {a b : Rat} (ha : 0 < a) (hb : 0 < b) : 0 < a / b := by
  rw [Rat.div_def]; exact Rat.mul_pos ha (Rat.inv_pos.mpr hb)
theorem le_div {a b c : Rat} (hc : 0 < c) : a ≤ b / c ↔ a * c ≤ b := by
  rw [← Rat.not_lt, ← Rat.not_lt, Rat.div_lt_iff hc]
section step
variable {A : List (Nat × Nat)} {L : List (Nat × Rat)} {l : Rat}
theorem St.W (s : St A L) (h : A ≠ []) : (0 : Rat) < (wsum A : Rat) := Rat.natCast_pos.mpr (wsum_pos s.wp h)
theorem St.rp (s : St A L) (h : A ≠ []) {p : Nat × Nat} (hp : p ∈ A) : (0 : Rat) < (p.2 : Rat) / (wsum A : Rat) := div_pos (Rat.natCast_pos.mpr (s.wp p hp)) (s.W h)
theorem St.lkA (s : St A L) {h : Nat} {c : Rat} (e : lk L h = some c) : ∃ w, lk A h = some w := by
  obtain ⟨q, hq, hk⟩ := s.sub _ (lk_mem e)
  exact ⟨q.2, by rw [← show q.1 = h from hk]; exact mem_lk s.dA hq⟩
/-- l is the time after which the first of them is full -/
structure Ln (A : List (Nat × Nat)) (L : List (Nat × Rat)) (l : Rat) : Prop where
  pos : 0 < l
  le : ∀ h w c, lk A h = some w → lk L h = some c → l * ((w : Rat) / (wsum A : Rat)) ≤ c
  ex : ∃ h w c, lk A h = some w ∧ lk L h = some c ∧ l * ((w : Rat) / (wsum A : Rat)) = c
theorem Ln.of (s : St A L) (h0 : A ≠ []) (e : lenOf L (wsum A : Rat) A none = some l) : Ln A L l := by
  obtain ⟨_, h2, h3⟩ := (lenOf_spec e).2 l rfl
  rcases h3 with z | ⟨p, hp, c, hc, hl⟩
  · cases z
  · have hr := s.rp h0 hp
    have hcp := s.lp _ (lk_mem hc)
    refine ⟨by rw [hl]; exact div_pos hcp hr, fun h w c' ha hc' => ?_, p.1, p.2, c, mem_lk s.dA hp, hc, by rw [hl]; exact Rat.div_mul_cancel (by grind)⟩
    have := h2 (h, w) (lk_mem ha) c' hc'
    exact (le_div (s.rp h0 (lk_mem ha))).mp this
theorem rt_some {h w : Nat} {W : Rat} (e : lk A h = some w) : rt A W h = (w : Rat) / W := by unfold rt; rw [e]
theorem rt_none {h : Nat} {W : Rat} (e : lk A h = none) : rt A W h = 0 := by unfold rt; rw [e]
theorem lk_low {r : Nat → Rat} {h : Nat} : lk (lowL L r l) h = (lk L h).map fun c => c - l * r h := lk_map (fun k c => c - l * r k) L h
theorem lk_keepL (d : Dis L) {h : Nat} : lk (keepL L) h = (lk L h).bind fun c => if c ≠ 0 then some c else none := by
  unfold keepL
  rw [lk_filter d]
  cases lk L h <;> simp
theorem lk_keepA (d : Dis A) {h : Nat} : lk (keepA L A) h = (lk A h).bind fun w => match lk L h with | none => some w | some c => if c ≠ 0 then some w else none := by
  unfold keepA
  rw [lk_filter d]
  cases lk A h with
  | none => rfl
  | some w =>
    simp only [Option.bind_some]
    cases lk L h <;> simp
theorem St.next (s : St A L) (n : Ln A L l) : St (keepA (lowL L (rt A (wsum A : Rat)) l) A) (keepL (lowL L (rt A (wsum A : Rat)) l)) := by
  have dlow : Dis (lowL L (rt A (wsum A : Rat)) l) := dis_map (fun k c => c - l * rt A (wsum A : Rat) k) s.dL
  refine ⟨List.Pairwise.filter _ s.dA, List.Pairwise.filter _ dlow, fun p hp => s.wp p (List.mem_filter.mp hp).1, fun p hp => ?_, fun p hp => ?_⟩
  · have h1 := List.mem_filter.mp hp
    obtain ⟨q, hq, rfl⟩ := List.mem_map.mp h1.1
    have hlk := mem_lk s.dL hq
    obtain ⟨w, hw⟩ := s.lkA hlk
    have := n.le _ _ _ hw hlk
    have hne := of_decide_eq_true h1.2
    simp only [rt_some hw] at hne ⊢
    grind
  · have hd : lk (keepL (lowL L (rt A (wsum A : Rat)) l)) p.1 = some p.2 := mem_lk (List.Pairwise.filter _ dlow) hp
    have h1 := List.mem_filter.mp hp
    obtain ⟨q, hq, rfl⟩ := List.mem_map.mp h1.1
    obtain ⟨r, hr, hk⟩ := s.sub _ hq
    refine ⟨r, List.mem_filter.mpr ⟨hr, ?_⟩, hk⟩
    have e : lk (lowL L (rt A (wsum A : Rat)) l) r.1 = some (q.2 - l * rt A (wsum A : Rat) q.1) := by
      rw [hk, lk_low, mem_lk s.dL hq]; rfl
    simp only [e]
    exact h1.2
theorem keepA_short (s : St A L) (n : Ln A L l) : (keepA (lowL L (rt A (wsum A : Rat)) l) A).length < A.length := by
  obtain ⟨h, w, c, h1, h2, h3⟩ := n.ex
  unfold keepA
  refine List.length_filter_lt_length_iff_exists.mpr ⟨(h, w), lk_mem h1, ?_⟩
  have e : lk (lowL L (rt A (wsum A : Rat)) l) h = some 0 := by
    rw [lk_low, h2, rt_some h1]
    show some _ = some _
    congr 1
    grind
  simp only [e]
  simp
end step
end Mx

/-! plain mathematics: how the law fills a level; whole ladders -/
namespace Mx
def capR (C : List (Nat × Nat)) (h : Nat) : Nat := (lk C h).getD 0
def ratC (C : List (Nat × Nat)) : List (Nat × Rat) := C.map fun p => (p.1, (p.2 : Rat))
theorem lk_ratC {C : List (Nat × Nat)} {h : Nat} : lk (ratC C) h = (lk C h).map (fun (c : Nat) => (c : Rat)) := lk_map (β := Nat) (fun (_ : Nat) (c : Nat) => (c : Rat)) C h
end Mx

/-! plain mathematics: rungs, ladders, bends -/
namespace Mx
inductive Rung where
  | fixed (s : List (Nat × Nat))
  | shares (w c : List (Nat × Nat))
def Rung.A : Rung → List (Nat × Nat)
  | .fixed s => s
  | .shares w _ => w
def Rung.C : Rung → List (Nat × Nat)
  | .fixed s => s
  | .shares _ c => c
def Rung.endless : Rung → Bool
  | .fixed _ => false
  | .shares w c => decide (c.length < w.length)
def pcs : Rung → List Pc
  | .fixed s => [(some (wsum s : Rat), rt s (wsum s : Rat))]
  | .shares w c => spGo (w.length + 1) w (ratC c)
structure POk (n m : Nat) (ps : List (Nat × Nat)) : Prop where
  el : ∀ p ∈ ps, p.1 < n ∧ 1 ≤ p.2 ∧ p.2 ≤ m
  inc : ps.Pairwise (fun a b => a.1 < b.1)
theorem POk.dis {n m : Nat} {ps : List (Nat × Nat)} (h : POk n m ps) : Dis ps := h.inc.imp fun z => Nat.ne_of_lt z
def Rung.Ok (n : Nat) : Rung → Prop
  | .fixed s => s ≠ [] ∧ POk n 999 s
  | .shares w c => w ≠ [] ∧ POk n 20 w ∧ POk n 999 c ∧ ∀ p ∈ c, ∃ q ∈ w, q.1 = p.1
def sn (n : Nat) (f : Nat → Rat) : Rat := ((List.range n).map f).sum
theorem sn_zero (f) : sn 0 f = 0 := rfl
theorem sn_succ (n f) : sn (n + 1) f = sn n f + f n := by unfold sn; rw [List.range_succ, List.map_append, List.sum_append]; simp; grind
theorem sn_congr {n : Nat} {f g : Nat → Rat} (h : ∀ k, k < n → f k = g k) : sn n f = sn n g := by
  induction n with
  | zero => rfl
  | succ n ih => rw [sn_succ, sn_succ, ih fun k hk => h k (by omega), h n (by omega)]
theorem sn_add {n : Nat} {f g : Nat → Rat} : sn n (fun h => f h + g h) = sn n f + sn n g := by
  induction n with
  | zero => rw [sn_zero, sn_zero, sn_zero]; grind
  | succ n ih => rw [sn_succ, sn_succ, sn_succ, ih]; grind
theorem sn_mul {n : Nat} {f : Nat → Rat} {c : Rat} : sn n (fun h => f h * c) = sn n f * c := by
  induction n with
  | zero => rw [sn_zero, sn_zero]; grind
  | succ n ih => rw [sn_succ, sn_succ, ih]; grind
theorem sn_nul {n : Nat} : sn n (fun _ => 0) = 0 := by
  induction n with
  | zero => rfl
  | succ n ih => rw [sn_succ, ih]; grind
theorem sn_one {n k : Nat} {v : Rat} (h : k < n) : sn n (fun j => if j = k then v else 0) = v := by
  induction n with
  | zero => omega
  | succ n ih =>
    rw [sn_succ]
    by_cases hk : k = n
    · subst hk
      rw [if_pos rfl, sn_congr (g := fun _ => 0) fun j hj => if_neg (by omega), sn_nul]; grind
    · rw [ih (by omega), if_neg (Ne.symm hk)]; grind
/-- all holders' sum is that of those who take part -/
theorem sn_sm {n : Nat} : ∀ {A : List (Nat × Nat)} {f : Nat → Rat}, Dis A → (∀ p ∈ A, p.1 < n) → (∀ h, lk A h = none → f h = 0) → sn n f = sm A f
  | [], f, _, _, h => by rw [sm_nil, sn_congr (g := fun _ => 0) fun k _ => h k rfl, sn_nul]
  | (k, w) :: A, f, d, hn, h => by
    have d' := List.pairwise_cons.mp d
    have e : sn n f = sn n (fun j => (if j = k then f k else 0) + (if j = k then 0 else f j)) := sn_congr fun j _ => by
      by_cases hj : j = k
      · rw [if_pos hj, if_pos hj, hj]; grind
      · rw [if_neg hj, if_neg hj]; grind
    rw [e, sn_add, sn_one (hn (k, w) (by simp)), sm_cons, sn_sm (A := A) d'.2 (fun p hp => hn p (List.mem_cons_of_mem _ hp)) fun j hj => ?_]
    · congr 1
      exact sm_congr fun p hp => if_neg (Ne.symm (d'.1 p hp))
    · by_cases hk : j = k
      · rw [if_pos hk]
      · rw [if_neg hk]
        refine h j ?_
        unfold lk
        rw [if_neg (Ne.symm hk)]
        exact hj
structure PcOk (n : Nat) (pc : Pc) : Prop where
  one : sn n pc.2 = 1
  nn : ∀ h, 0 ≤ pc.2 h
  out : ∀ h, n ≤ h → pc.2 h = 0
  pos : ∀ l, pc.1 = some l → 0 < l
theorem rt_nn {A : List (Nat × Nat)} {W : Rat} (hW : 0 < W) (h : Nat) : 0 ≤ rt A W h := by
  unfold rt
  cases lk A h with
  | none => exact Rat.le_refl
  | some w => simp only; rw [Rat.div_def]; exact Rat.mul_nonneg Rat.natCast_nonneg (Rat.le_of_lt (Rat.inv_pos.mpr hW))
theorem rt_ok {n : Nat} {A : List (Nat × Nat)} (d : Dis A) (hn : ∀ p ∈ A, p.1 < n) (hw : ∀ p ∈ A, 0 < p.2) (h0 : A ≠ []) {o : Option Rat} (ho : ∀ l, o = some l → 0 < l) : PcOk n (o, rt A (wsum A : Rat)) := by
  have hW : (0 : Rat) < (wsum A : Rat) := Rat.natCast_pos.mpr (wsum_pos hw h0)
  refine ⟨?_, rt_nn hW, fun h hh => rt_none (lk_none.mpr fun p hp e => ?_), ho⟩
  · rw [sn_sm d hn fun h e => rt_none e]; exact sm_rt d rfl hW
  · have := hn p hp; omega
theorem spGo_ok {n : Nat} : ∀ (k : Nat) (A : List (Nat × Nat)) (L : List (Nat × Rat)), St A L → (∀ p ∈ A, p.1 < n) → ∀ pc ∈ spGo k A L, PcOk n pc
  | 0, A, L, s, hn, pc, h => by cases h
  | k + 1, A, L, s, hn, pc, h => by
    unfold spGo at h
    by_cases hA : A = []
    · rw [if_pos hA] at h; cases h
    · rw [if_neg hA] at h
      cases hl : lenOf L (wsum A : Rat) A none with
      | none =>
        simp only [hl] at h
        rw [List.mem_singleton.mp h]
        exact rt_ok s.dA hn s.wp hA fun l e => by cases e
      | some l =>
        simp only [hl] at h
        have nn := Ln.of s hA hl
        rcases List.mem_cons.mp h with z | z
        · rw [z]; exact rt_ok s.dA hn s.wp hA fun l' e => by cases e; exact nn.pos
        · exact spGo_ok k _ _ (s.next nn) (fun p hp => hn p (List.mem_filter.mp hp).1) pc z
def Fin (ps : List Pc) : Prop := ∀ pc ∈ ps, pc.1 ≠ none
def End (ps : List Pc) : Prop := ∃ qs r, ps = qs ++ [(none, r)] ∧ Fin qs
theorem End.cons {pc : Pc} {ps : List Pc} (h : pc.1 ≠ none) (e : End ps) : End (pc :: ps) := by
  obtain ⟨qs, r, rfl, f⟩ := e
  exact ⟨pc :: qs, r, rfl, fun x hx => by rcases List.mem_cons.mp hx with z | z; rw [z]; exact h; exact f x z⟩
theorem spGo_end : ∀ (k : Nat) (A : List (Nat × Nat)) (L : List (Nat × Rat)), St A L → A.length < k → (∃ p ∈ A, lk L p.1 = none) → End (spGo k A L)
  | 0, A, L, s, hn, h => by omega
  | k + 1, A, L, s, hn, h => by
    obtain ⟨p, hp, hpl⟩ := h
    have hA : A ≠ [] := fun z => by rw [z] at hp; cases hp
    unfold spGo
    rw [if_neg hA]
    cases hl : lenOf L (wsum A : Rat) A none with
    | none => exact ⟨[], _, rfl, fun x hx => by cases hx⟩
    | some l =>
      have nn := Ln.of s hA hl
      simp only
      refine End.cons (fun z => by cases z) (spGo_end k _ _ (s.next nn) (by have := keepA_short s nn; omega) ⟨p, List.mem_filter.mpr ⟨hp, ?_⟩, ?_⟩)
      · rw [lk_low, hpl]; rfl
      · rw [lk_keepL (L := lowL L (rt A (wsum A : Rat)) l) (dis_map (fun k c => c - l * rt A (wsum A : Rat) k) s.dL), lk_low, hpl]; rfl
theorem spGo_fin : ∀ (k : Nat) (A : List (Nat × Nat)) (L : List (Nat × Rat)), St A L → (∀ p ∈ A, lk L p.1 ≠ none) → Fin (spGo k A L)
  | 0, A, L, s, h => fun pc hp => by cases hp
  | k + 1, A, L, s, h => by
    unfold spGo
    by_cases hA : A = []
    · rw [if_pos hA]; exact fun pc hp => by cases hp
    · rw [if_neg hA]
      cases hl : lenOf L (wsum A : Rat) A none with
      | none =>
        have hno := ((lenOf_spec hl).1 rfl).2
        cases A with
        | nil => exact absurd rfl hA
        | cons p A => exact absurd (hno p (by simp)) (h p (by simp))
      | some l =>
        have nn := Ln.of s hA hl
        simp only
        intro pc hpc
        rcases List.mem_cons.mp hpc with z | z
        · rw [z]; exact fun e => by cases e
        · refine spGo_fin k _ _ (s.next nn) (fun p hp => ?_) pc z
          have h1 := List.mem_filter.mp hp
          rw [lk_keepL (L := lowL L (rt A (wsum A : Rat)) l) (dis_map (fun k c => c - l * rt A (wsum A : Rat) k) s.dL)]
          have h2 := h1.2
          cases hc : lk (lowL L (rt A (wsum A : Rat)) l) p.1 with
          | none => rw [lk_low] at hc; cases hq : lk L p.1 with
            | none => exact absurd hq (h p h1.1)
            | some c => rw [hq] at hc; cases hc
          | some c => simp only [hc] at h2; have := of_decide_eq_true h2; simp [this]
theorem nodup_le : ∀ {l m : List Nat}, l.Nodup → (∀ a ∈ l, a ∈ m) → l.length ≤ m.length
  | [], _, _, _ => Nat.zero_le _
  | a :: l, m, hn, h => by
    have hn' := List.nodup_cons.mp hn
    have hm := h a (by simp)
    have := nodup_le (l := l) (m := m.erase a) hn'.2 fun b hb => (List.mem_erase_of_ne (fun e => hn'.1 (by rw [← e]; exact hb))).mpr (h b (List.mem_cons_of_mem _ hb))
    rw [List.length_erase_of_mem hm] at this
    have : 0 < m.length := List.length_pos_of_mem hm
    rw [List.length_cons]
    omega
theorem POk.nodup {n m : Nat} {ps : List (Nat × Nat)} (h : POk n m ps) : (ps.map (·.1)).Nodup := by
  unfold List.Nodup
  rw [List.pairwise_map]
  exact h.inc.imp fun z => Nat.ne_of_lt z
theorem endless_iff {n : Nat} {w c : List (Nat × Nat)} (h : (Rung.shares w c).Ok n) : c.length < w.length ↔ ∃ p ∈ w, lk c p.1 = none := by
  obtain ⟨h1, h2, h3, h4⟩ := h
  constructor
  · intro hlt
    refine Classical.byContradiction fun hno => ?_
    have := nodup_le h2.nodup (m := c.map (·.1)) fun a ha => by
      obtain ⟨p, hp, rfl⟩ := List.mem_map.mp ha
      cases hc : lk c p.1 with
      | none => exact absurd ⟨p, hp, hc⟩ hno
      | some v => exact List.mem_map.mpr ⟨_, lk_mem hc, rfl⟩
    rw [List.length_map, List.length_map] at this
    omega
  · rintro ⟨p, hp, hc⟩
    rw [lk_none] at hc
    have := nodup_le h3.nodup (m := (w.map (·.1)).erase p.1) fun a ha => by
      obtain ⟨q, hq, rfl⟩ := List.mem_map.mp ha
      refine (List.mem_erase_of_ne (hc q hq)).mpr ?_
      obtain ⟨r, hr, e⟩ := h4 q hq
      exact List.mem_map.mpr ⟨r, hr, e⟩
    rw [List.length_erase_of_mem (List.mem_map.mpr ⟨p, hp, rfl⟩), List.length_map, List.length_map] at this
    have : 0 < w.length := List.length_pos_of_mem hp
    omega
theorem St.of {n : Nat} {w c : List (Nat × Nat)} (h : (Rung.shares w c).Ok n) : St w (ratC c) := by
  obtain ⟨h1, h2, h3, h4⟩ := h
  refine ⟨h2.dis, dis_map (β := Nat) (fun (_ : Nat) (c : Nat) => (c : Rat)) h3.dis, fun p hp => (h2.el p hp).2.1, fun p hp => ?_, fun p hp => ?_⟩
  · obtain ⟨q, hq, rfl⟩ := List.mem_map.mp hp
    exact Rat.natCast_pos.mpr (h3.el q hq).2.1
  · obtain ⟨q, hq, rfl⟩ := List.mem_map.mp hp
    exact h4 q hq
theorem pcs_ok {n : Nat} {r : Rung} (h : r.Ok n) : ∀ pc ∈ pcs r, PcOk n pc := by
  cases r with
  | fixed s =>
    obtain ⟨h1, h2⟩ := h
    intro pc hp
    rw [List.mem_singleton.mp hp]
    have hw : ∀ p ∈ s, 0 < p.2 := fun p hp => (h2.el p hp).2.1
    exact rt_ok h2.dis (fun p hp => (h2.el p hp).1) hw h1 fun l e => by cases e; exact Rat.natCast_pos.mpr (wsum_pos hw h1)
  | shares w c => exact spGo_ok _ _ _ (St.of h) fun p hp => (h.2.1.el p hp).1
theorem pcs_end {n : Nat} {r : Rung} (h : r.Ok n) (e : r.endless = true) : End (pcs r) := by
  cases r with
  | fixed s => cases e
  | shares w c =>
    obtain ⟨p, hp, hc⟩ := (endless_iff h).mp (of_decide_eq_true e)
    exact spGo_end _ _ _ (St.of h) (by omega) ⟨p, hp, by rw [lk_ratC, hc]; rfl⟩
theorem pcs_fin {n : Nat} {r : Rung} (h : r.Ok n) (e : r.endless = false) : Fin (pcs r) := by
  cases r with
  | fixed s => intro pc hp; rw [List.mem_singleton.mp hp]; exact fun z => by cases z
  | shares w c =>
    refine spGo_fin _ _ _ (St.of h) fun p hp hc => ?_
    have := (endless_iff h).mpr ⟨p, hp, by rw [lk_ratC] at hc; cases hq : lk c p.1 with | none => rfl | some v => rw [hq] at hc; cases hc⟩
    unfold Rung.endless at e
    simp [this] at e
/-! evaluation of pieces -/
theorem ev_le {l x : Rat} {r : Nat → Rat} {ps : List Pc} {h : Nat} (hx : x ≤ l) : ev ((some l, r) :: ps) x h = r h * x := by
  show (if x ≤ l then r h * x else r h * l + ev ps (x - l) h) = _
  rw [if_pos hx]
theorem ev_gt {l x : Rat} {r : Nat → Rat} {ps : List Pc} {h : Nat} (hx : ¬ x ≤ l) : ev ((some l, r) :: ps) x h = r h * l + ev ps (x - l) h := by
  show (if x ≤ l then r h * x else r h * l + ev ps (x - l) h) = _
  rw [if_neg hx]
def tot : List Pc → Rat
  | [] => 0
  | (some l, _) :: ps => l + tot ps
  | (none, _) :: ps => tot ps
section
variable {n : Nat} {ps qs : List Pc} {x y : Rat} {h : Nat}
theorem tot_nn : ∀ {ps : List Pc}, (∀ pc ∈ ps, PcOk n pc) → 0 ≤ tot ps
  | [], _ => Rat.le_refl
  | (none, r) :: ps, k => by
    have h1 := tot_nn (ps := ps) fun pc hp => k pc (List.mem_cons_of_mem _ hp)
    exact h1
  | (some l, r) :: ps, k => by
    have h1 := tot_nn (ps := ps) fun pc hp => k pc (List.mem_cons_of_mem _ hp)
    have h2 := (k (some l, r) (by simp)).pos l rfl
    unfold tot; grind
theorem ev_zero : ∀ {ps : List Pc} {h : Nat}, (∀ pc ∈ ps, PcOk n pc) → ev ps 0 h = 0
  | [], _, _ => rfl
  | (none, r) :: ps, h, _ => by show r h * 0 = 0; grind
  | (some l, r) :: ps, h, k => by
    have h2 := (k (some l, r) (by simp)).pos l rfl
    unfold ev; rw [if_pos (by grind)]; grind
theorem ev_nn : ∀ {ps : List Pc} {x : Rat} {h : Nat}, (∀ pc ∈ ps, PcOk n pc) → 0 ≤ x → 0 ≤ ev ps x h
  | [], _, _, _, _ => Rat.le_refl
  | (none, r) :: ps, x, h, k, hx => Rat.mul_nonneg ((k (none, r) (by simp)).nn h) hx
  | (some l, r) :: ps, x, h, k, hx => by
    have h1 := (k (some l, r) (by simp)).nn h
    have h2 := (k (some l, r) (by simp)).pos l rfl
    unfold ev
    split
    · exact Rat.mul_nonneg h1 hx
    · have h3 := ev_nn (ps := ps) (x := x - l) (h := h) (fun pc hp => k pc (List.mem_cons_of_mem _ hp)) (by grind)
      have h4 := Rat.mul_nonneg h1 (Rat.le_of_lt h2)
      grind
theorem sn_ev_fin : ∀ {ps : List Pc} {x : Rat}, (∀ pc ∈ ps, PcOk n pc) → Fin ps → 0 ≤ x → sn n (ev ps x) = if x ≤ tot ps then x else tot ps
  | [], x, _, _, hx => by
    have e : ev [] x = fun _ => 0 := rfl
    rw [e, sn_nul]
    show (0 : Rat) = if x ≤ 0 then x else 0
    split <;> grind
  | (none, r) :: ps, x, _, f, _ => absurd rfl (f (none, r) (by simp))
  | (some l, r) :: ps, x, k, f, hx => by
    have k' : ∀ pc ∈ ps, PcOk n pc := fun pc hp => k pc (List.mem_cons_of_mem _ hp)
    have h1 := (k (some l, r) (by simp)).one
    simp only at h1
    have h0 := tot_nn k'
    by_cases hxl : x ≤ l
    · have e : ev ((some l, r) :: ps) x = fun h => r h * x := by funext h; unfold ev; rw [if_pos hxl]
      rw [e, sn_mul, h1]
      unfold tot
      rw [if_pos (by grind)]; grind
    · have e : ev ((some l, r) :: ps) x = fun h => r h * l + ev ps (x - l) h := by funext h; exact ev_gt hxl
      rw [e, sn_add, sn_mul, h1, sn_ev_fin k' (fun pc hp => f pc (List.mem_cons_of_mem _ hp)) (by grind)]
      rw [show tot ((some l, r) :: ps) = l + tot ps from rfl]
      generalize tot ps = t at *
      split <;> split <;> grind
theorem ev_append : ∀ {ps qs : List Pc} {x : Rat} {h : Nat}, (∀ pc ∈ ps, PcOk n pc) → (∀ pc ∈ qs, PcOk n pc) → Fin ps → 0 ≤ x → ev (ps ++ qs) x h = ev ps x h + ev qs (if x ≤ tot ps then 0 else x - tot ps) h
  | [], qs, x, h, _, kq, _, hx => by
    show ev qs x h = 0 + ev qs (if x ≤ 0 then 0 else x - 0) h
    split
    · rw [show x = 0 by grind]; grind
    · rw [show x - 0 = x by grind]; grind
  | (none, r) :: ps, _, _, _, _, _, f, _ => absurd rfl (f (none, r) (by simp))
  | (some l, r) :: ps, qs, x, h, k, kq, f, hx => by
    have k' : ∀ pc ∈ ps, PcOk n pc := fun pc hp => k pc (List.mem_cons_of_mem _ hp)
    have h0 := tot_nn k'
    rw [List.cons_append]
    by_cases hxl : x ≤ l
    · have e1 : ev ((some l, r) :: (ps ++ qs)) x h = r h * x := by unfold ev; rw [if_pos hxl]
      have e2 : ev ((some l, r) :: ps) x h = r h * x := by unfold ev; rw [if_pos hxl]
      rw [e1, e2, if_pos (by unfold tot; grind), ev_zero kq]; grind
    · have e1 : ev ((some l, r) :: (ps ++ qs)) x h = r h * l + ev (ps ++ qs) (x - l) h := ev_gt hxl
      have e2 : ev ((some l, r) :: ps) x h = r h * l + ev ps (x - l) h := ev_gt hxl
      rw [e1, e2, ev_append k' kq (fun pc hp => f pc (List.mem_cons_of_mem _ hp)) (by grind)]
      have e3 : (if x ≤ tot ((some l, r) :: ps) then 0 else x - tot ((some l, r) :: ps)) = (if x - l ≤ tot ps then 0 else x - l - tot ps) := by
        rw [show tot ((some l, r) :: ps) = l + tot ps from rfl]
        generalize tot ps = t at *
        split <;> split <;> grind
      rw [e3]; grind
end
/-! whole ladders -/
def lpcs : List Rung → List Pc
  | [] => []
  | r :: rs => pcs r ++ (if r.endless = true then [] else lpcs rs)
theorem lpcs_ok {n : Nat} : ∀ {rs : List Rung}, (∀ r ∈ rs, r.Ok n) → ∀ pc ∈ lpcs rs, PcOk n pc
  | [], _, pc, h => by cases h
  | r :: rs, k, pc, h => by
    unfold lpcs at h
    rcases List.mem_append.mp h with z | z
    · exact pcs_ok (k r (by simp)) pc z
    · split at z
      · cases z
      · exact lpcs_ok (fun q hq => k q (List.mem_cons_of_mem _ hq)) pc z
theorem lpcs_end {n : Nat} : ∀ {rs : List Rung}, (∀ r ∈ rs, r.Ok n) → (∃ r ∈ rs, r.endless = true) → End (lpcs rs)
  | [], _, h => by obtain ⟨r, hr, _⟩ := h; cases hr
  | r :: rs, k, h => by
    have hr := k r (by simp)
    unfold lpcs
    cases he : r.endless with
    | true => simp only [if_true, List.append_nil]; exact pcs_end hr he
    | false =>
      simp only [Bool.false_eq_true, if_false]
      obtain ⟨qs, u, e, f⟩ := lpcs_end (rs := rs) (fun q hq => k q (List.mem_cons_of_mem _ hq)) (by
        obtain ⟨q, hq, hqe⟩ := h
        rcases List.mem_cons.mp hq with z | z
        · rw [z, he] at hqe; cases hqe
        · exact ⟨q, z, hqe⟩)
      refine ⟨pcs r ++ qs, u, by rw [e, List.append_assoc], fun pc hp => ?_⟩
      rcases List.mem_append.mp hp with z | z
      · exact pcs_fin hr he pc z
      · exact f pc z
/-! bends -/
abbrev Row := Rat × Rat × Rat
def addR (acc : List Row) (s p r : Rat) : List Row := match acc.getLast? with
  | none => acc ++ [(s, p, r)]
  | some b => if b.2.2 = r then acc else acc ++ [(s, p, r)]
def bgo (h : Nat) : List Pc → List Row → Rat → Rat → List Row
  | [], acc, _, _ => acc
  | (o, r) :: ps, acc, s, p => match o with
    | none => bgo h ps (addR acc s p (r h)) s p
    | some l => bgo h ps (addR acc s p (r h)) (s + l) (p + l * r h)
def upTo (rows : List Row) (x : Rat) : List Row := rows.filter fun r => !decide (x < r.1)
def payR (rows : List Row) (x : Rat) : Rat := match (upTo rows x).getLast? with
  | some b => b.2.1 + b.2.2 * (x - b.1)
  | none => 0
structure RInv (acc : List Row) (s p : Rat) : Prop where
  st : ∀ b ∈ acc, b.1 ≤ s
  ln : ∀ b, acc.getLast? = some b → p = b.2.1 + b.2.2 * (s - b.1)
theorem addR_inv {acc : List Row} {s p r : Rat} (i : RInv acc s p) : RInv (addR acc s p r) s p ∧ ∃ b, (addR acc s p r).getLast? = some b ∧ b.2.2 = r := by
  unfold addR
  have hnew : RInv (acc ++ [(s, p, r)]) s p := ⟨fun b hb => by
    rcases List.mem_append.mp hb with z | z
    · exact i.st b z
    · rw [List.mem_singleton.mp z]; exact Rat.le_refl, fun b hb => by
    rw [List.getLast?_append] at hb
    simp at hb
    subst hb
    simp only; grind⟩
  split
  · exact ⟨hnew, (s, p, r), by simp, rfl⟩
  · rename_i b hb
    split
    · rename_i hr; exact ⟨i, b, hb, hr⟩
    · exact ⟨hnew, (s, p, r), by simp, rfl⟩
theorem addR_ext (acc : List Row) (s p r : Rat) : ∃ m, addR acc s p r = acc ++ m ∧ ∀ b ∈ m, b.1 = s := by
  unfold addR
  split
  · exact ⟨_, rfl, fun b hb => by rw [List.mem_singleton.mp hb]⟩
  · split
    · exact ⟨[], by simp, fun b hb => by cases hb⟩
    · exact ⟨_, rfl, fun b hb => by rw [List.mem_singleton.mp hb]⟩
theorem bgo_ext {n h : Nat} : ∀ (ps : List Pc) (acc : List Row) (s p : Rat), (∀ pc ∈ ps, PcOk n pc) → ∃ m, bgo h ps acc s p = acc ++ m ∧ ∀ b ∈ m, s ≤ b.1
  | [], acc, s, p, _ => ⟨[], by simp [bgo], fun b hb => by cases hb⟩
  | (o, r) :: ps, acc, s, p, k => by
    have k' : ∀ pc ∈ ps, PcOk n pc := fun pc hp => k pc (List.mem_cons_of_mem _ hp)
    obtain ⟨m1, e1, h1⟩ := addR_ext acc s p (r h)
    cases o with
    | none =>
      obtain ⟨m, e, hm⟩ := bgo_ext ps (addR acc s p (r h)) s p k'
      refine ⟨m1 ++ m, by show bgo h ps (addR acc s p (r h)) s p = _; rw [e, e1, List.append_assoc], fun b hb => ?_⟩
      rcases List.mem_append.mp hb with z | z
      · rw [h1 b z]; exact Rat.le_refl
      · exact hm b z
    | some l =>
      have hl := (k (some l, r) (by simp)).pos l rfl
      obtain ⟨m, e, hm⟩ := bgo_ext ps (addR acc s p (r h)) (s + l) (p + l * r h) k'
      refine ⟨m1 ++ m, by show bgo h ps (addR acc s p (r h)) (s + l) (p + l * r h) = _; rw [e, e1, List.append_assoc], fun b hb => ?_⟩
      rcases List.mem_append.mp hb with z | z
      · rw [h1 b z]; exact Rat.le_refl
      · have := hm b z; grind
theorem payR_last {acc : List Row} {s p x : Rat} {b : Row} (i : RInv acc s p) (hb : acc.getLast? = some b) (hx : s ≤ x) : payR acc x = p + b.2.2 * (x - s) := by
  have e : upTo acc x = acc := by
    unfold upTo
    rw [List.filter_eq_self]
    intro c hc
    have := i.st c hc
    simp; exact Rat.not_lt.mpr (by grind)
  unfold payR
  rw [e, hb]
  have := i.ln b hb
  simp only
  grind
theorem payR_ext {acc m : List Row} {x : Rat} (h : ∀ b ∈ m, x < b.1) : payR (acc ++ m) x = payR acc x := by
  unfold payR upTo
  rw [List.filter_append, show (m.filter fun r => !decide (x < r.1)) = [] by
    rw [List.filter_eq_nil_iff]; intro b hb; simp [h b hb], List.append_nil]
theorem bgo_pay {n h : Nat} : ∀ (ps : List Pc) (acc : List Row) (s p x : Rat), (∀ pc ∈ ps, PcOk n pc) → End ps → RInv acc s p → s ≤ x → payR (bgo h ps acc s p) x = p + ev ps (x - s) h
  | [], _, _, _, _, _, e, _, _ => by obtain ⟨qs, r, h, _⟩ := e; simp at h
  | (none, r) :: ps, acc, s, p, x, k, e, i, hx => by
    have hps : ps = [] := by
      obtain ⟨qs, r', h, f⟩ := e
      cases qs with
      | nil => simp at h; exact h.2
      | cons q qs =>
        simp only [List.cons_append, List.cons.injEq] at h
        exact absurd (by rw [← h.1]) (f q (by simp))
    subst hps
    obtain ⟨i2, b, hb, hr⟩ := addR_inv (r := r h) i
    show payR (addR acc s p (r h)) x = p + r h * (x - s)
    rw [payR_last i2 hb hx, hr]
  | (some l, r) :: ps, acc, s, p, x, k, e, i, hx => by
    have k' : ∀ pc ∈ ps, PcOk n pc := fun pc hp => k pc (List.mem_cons_of_mem _ hp)
    have e' : End ps := by
      obtain ⟨qs, r', h, f⟩ := e
      cases qs with
      | nil => simp at h
      | cons q qs =>
        simp only [List.cons_append, List.cons.injEq] at h
        exact ⟨qs, r', h.2, fun pc hp => f pc (List.mem_cons_of_mem _ hp)⟩
    have hl := (k (some l, r) (by simp)).pos l rfl
    obtain ⟨i2, b, hb, hr⟩ := addR_inv (r := r h) i
    show payR (bgo h ps (addR acc s p (r h)) (s + l) (p + l * r h)) x = _
    by_cases hxl : s + l ≤ x
    · have i3 : RInv (addR acc s p (r h)) (s + l) (p + l * r h) := ⟨fun c hc => by have := i2.st c hc; grind, fun c hc => by
        have := i2.ln c hc
        rw [hb] at hc
        cases hc
        rw [this, hr]
        grind⟩
      rw [bgo_pay ps _ _ _ x k' e' i3 hxl]
      by_cases hq : x - s ≤ l
      · rw [ev_le hq, show x - (s + l) = 0 by grind, show x - s = l by grind, ev_zero k']; grind
      · rw [ev_gt hq, show x - (s + l) = x - s - l by grind]; grind
    · obtain ⟨m, em, hm⟩ := bgo_ext (h := h) ps (addR acc s p (r h)) (s + l) (p + l * r h) k'
      rw [em, payR_ext (fun b hb => by have := hm b hb; grind), payR_last i2 hb hx, hr]
      rw [ev_le (by grind)]
/-- the rows of a holder -/
def rowsL (rs : List Rung) (h : Nat) : List Row := bgo h (lpcs rs) [] 0 0
theorem rows_pay {n : Nat} {rs : List Rung} {h : Nat} {x : Rat} (k : ∀ r ∈ rs, r.Ok n) (e : ∃ r ∈ rs, r.endless = true) (hx : 0 ≤ x) : payR (rowsL rs h) x = ev (lpcs rs) x h := by
  unfold rowsL
  rw [bgo_pay _ _ _ _ _ (lpcs_ok k) (lpcs_end k e) ⟨fun b hb => (by cases hb), fun b hb => (by cases hb)⟩ hx, show x - 0 = x by grind]
  grind
end Mx

/-! few bits: the numbers of a ladder's pieces -/
namespace Mx
open Sx (Bd mkRat_bd Bd.nat)
/-- the state of a rung's pieces at the level t -/
structure Lev (A0 C : List (Nat × Nat)) (t : Rat) (A : List (Nat × Nat)) (L : List (Nat × Rat)) : Prop where
  lA : ∀ h w, lk A0 h = some w → lk A h = match lk C h with
    | none => some w
    | some c => if (w : Rat) * t < (c : Rat) then some w else none
  lL : ∀ h w, lk A0 h = some w → lk L h = match lk C h with
    | none => none
    | some c => if (w : Rat) * t < (c : Rat) then some ((c : Rat) - (w : Rat) * t) else none
  oA : ∀ h, lk A0 h = none → lk A h = none
  oL : ∀ h, lk A0 h = none → lk L h = none
def Lvl (A0 C : List (Nat × Nat)) (t : Rat) : Prop := t = 0 ∨ ∃ h w c, lk A0 h = some w ∧ lk C h = some c ∧ t = (c : Rat) / (w : Rat)
theorem Lev.next {A0 C A : List (Nat × Nat)} {L : List (Nat × Rat)} {t l : Rat} (v : Lev A0 C t A L) (s : St A L) (n : Ln A L l) (hA : A ≠ []) (hw0 : ∀ p ∈ A0, 0 < p.2) :
    Lev A0 C (t + l / (wsum A : Rat)) (keepA (lowL L (rt A (wsum A : Rat)) l) A) (keepL (lowL L (rt A (wsum A : Rat)) l)) ∧ Lvl A0 C (t + l / (wsum A : Rat)) ∧
    ∀ h, mf A0 (ratC C) (t + l / (wsum A : Rat)) h = mf A0 (ratC C) t h + l * rt A (wsum A : Rat) h := by
  have hW := s.W hA
  have dlow : Dis (lowL L (rt A (wsum A : Rat)) l) := dis_map (fun k c => c - l * rt A (wsum A : Rat) k) s.dL
  have hlW : (0 : Rat) < l / (wsum A : Rat) := div_pos n.pos hW
  have hwl : ∀ w : Nat, (w : Rat) * (l / (wsum A : Rat)) = l * ((w : Rat) / (wsum A : Rat)) := fun w => by rw [Rat.div_def, Rat.div_def]; grind
  have hd : ∀ w : Nat, (w : Rat) * (t + l / (wsum A : Rat)) = (w : Rat) * t + l * ((w : Rat) / (wsum A : Rat)) := fun w => by rw [Rat.mul_add, hwl]
  refine ⟨⟨fun h w e => ?_, fun h w e => ?_, fun h e => ?_, fun h e => ?_⟩, ?_, fun h => ?_⟩
  · have a := v.lA h w e
    have b := v.lL h w e
    rw [lk_keepA s.dA, lk_low, a, b]
    cases hc : lk C h with
    | none => rfl
    | some c =>
      simp only
      rw [hc] at a b
      by_cases hlt : (w : Rat) * t < (c : Rat)
      · simp only [hlt, if_true] at a b ⊢
        have hle := n.le h w _ a b
        rw [rt_some a]
        simp only [Option.map_some, Option.bind_some, hd]
        split <;> split <;> first | rfl | (exfalso; grind)
      · have hmm := mul_mono (w := w) (show t ≤ t + l / (wsum A : Rat) by grind)
        simp only [hlt, if_false]
        rw [if_neg (by grind)]
        rfl
  · have a := v.lA h w e
    have b := v.lL h w e
    rw [lk_keepL dlow, lk_low, b]
    cases hc : lk C h with
    | none => rfl
    | some c =>
      simp only
      rw [hc] at a b
      by_cases hlt : (w : Rat) * t < (c : Rat)
      · simp only [hlt, if_true] at a b ⊢
        have hle := n.le h w _ a b
        rw [rt_some a]
        simp only [Option.map_some, Option.bind_some, hd]
        split <;> split <;> first | (congr 1; grind) | rfl | (exfalso; grind)
      · have hmm := mul_mono (w := w) (show t ≤ t + l / (wsum A : Rat) by grind)
        simp only [hlt, if_false]
        rw [if_neg (by grind)]
        rfl
  · rw [lk_keepA s.dA, v.oA h e]; rfl
  · rw [lk_keepL dlow, lk_low, v.oL h e]; rfl
  · obtain ⟨h, w, c, h1, h2, h3⟩ := n.ex
    cases e : lk A0 h with
    | none => rw [v.oA h e] at h1; cases h1
    | some w0 =>
      have a := v.lA h w0 e
      have b := v.lL h w0 e
      rw [h1] at a
      rw [h2] at b
      cases hc : lk C h with
      | none => rw [hc] at b; cases b
      | some c0 =>
        rw [hc] at a b
        by_cases hlt : (w0 : Rat) * t < (c0 : Rat)
        · simp only [hlt, if_true] at a b
          cases a
          cases b
          have hwp : (0 : Rat) < (w : Rat) := Rat.natCast_pos.mpr (hw0 (h, w) (lk_mem e))
          refine .inr ⟨h, w, c0, e, hc, ?_⟩
          have := hd w
          have e3 : (w : Rat) * (t + l / (wsum A : Rat)) = (c0 : Rat) := by rw [this, h3]; grind
          rw [← e3, Rat.mul_comm]
          exact (Rat.mul_div_cancel (by grind)).symm
        · simp only [hlt, if_false] at a; cases a
  · unfold mf
    rw [lk_ratC]
    cases e : lk A0 h with
    | none => rw [rt_none (v.oA h e)]; simp only; grind
    | some w =>
      have a := v.lA h w e
      have b := v.lL h w e
      cases hc : lk C h with
      | none =>
        rw [hc] at a
        simp only [Option.map_none]
        rw [rt_some a, hd]
      | some c =>
        rw [hc] at a b
        simp only [Option.map_some]
        by_cases hlt : (w : Rat) * t < (c : Rat)
        · simp only [hlt, if_true] at a b
          have hle := n.le h w _ a b
          rw [rt_some a, hd]
          split <;> split <;> grind
        · simp only [hlt, if_false] at a
          have hmm := mul_mono (w := w) (show t ≤ t + l / (wsum A : Rat) by grind)
          rw [rt_none a]
          split <;> split <;> grind
theorem Lev.start {n : Nat} {w c : List (Nat × Nat)} (h : (Rung.shares w c).Ok n) : Lev w c 0 w (ratC c) := by
  refine ⟨fun k v e => ?_, fun k v e => ?_, fun k e => e, fun k e => ?_⟩
  · cases hc : lk c k with
    | none => exact e
    | some x =>
      have := (h.2.2.1.el _ (lk_mem hc)).2.1
      have : (0 : Rat) < (x : Rat) := Rat.natCast_pos.mpr this
      simp only
      rw [if_pos (by grind)]; exact e
  · rw [lk_ratC]
    cases hc : lk c k with
    | none => rfl
    | some x =>
      have := (h.2.2.1.el _ (lk_mem hc)).2.1
      have : (0 : Rat) < (x : Rat) := Rat.natCast_pos.mpr this
      simp only [Option.map_some]
      rw [if_pos (by grind)]; congr 1; grind
  · rw [lk_ratC]
    cases hc : lk c k with
    | none => rfl
    | some x =>
      obtain ⟨q, hq, e2⟩ := h.2.2.2 _ (lk_mem hc)
      rw [lk_none] at e
      exact absurd e2 (e q hq)
theorem mf_zero {A : List (Nat × Nat)} {C : List (Nat × Nat)} (hC : ∀ p ∈ C, 0 < p.2) (h : Nat) : mf A (ratC C) 0 h = 0 := by
  unfold mf
  rw [lk_ratC]
  cases lk A h with
  | none => rfl
  | some w =>
    cases hc : lk C h with
    | none => simp only [Option.map_none]; grind
    | some c =>
      have : (0 : Rat) < (c : Rat) := Rat.natCast_pos.mpr (hC _ (lk_mem hc))
      simp only [Option.map_some]
      split <;> grind
/-! a number with a denominator of at most 20 -/
theorem bd_frac {a b k : Nat} (hb : 0 < b) (ha : a < 2 ^ k) (hbk : b < 2 ^ k) : Bd k ((a : Rat) / (b : Rat)) := by
  have := mkRat_bd (n := (a : Int)) (d := b) (k := k) (by rw [Int.natAbs_natCast]; exact ha) hbk (by omega)
  rw [Rat.mkRat_eq_div] at this
  exact this
theorem bd_fracI {a : Int} {b k : Nat} (hb : 0 < b) (ha : a.natAbs < 2 ^ k) (hbk : b < 2 ^ k) : Bd k ((a : Rat) / (b : Rat)) := by
  have := mkRat_bd (n := a) (d := b) (k := k) ha hbk (by omega)
  rw [Rat.mkRat_eq_div] at this
  exact this
/-- a level as a fraction -/
def Lab (t : Rat) (a b : Nat) : Prop := 0 < b ∧ b ≤ 20 ∧ a ≤ 999 ∧ t * (b : Rat) = (a : Rat)
theorem Lvl.ab {n : Nat} {w c : List (Nat × Nat)} {t : Rat} (k : (Rung.shares w c).Ok n) (h : Lvl w c t) : ∃ a b, Lab t a b := by
  rcases h with h | ⟨j, x, y, h1, h2, h3⟩
  · exact ⟨0, 1, by decide, by decide, by decide, by rw [h]; grind⟩
  · have e1 := k.2.1.el _ (lk_mem h1)
    have e2 := k.2.2.1.el _ (lk_mem h2)
    refine ⟨y, x, e1.2.1, e1.2.2, e2.2.2, ?_⟩
    rw [h3]
    exact Rat.div_mul_cancel (by have : (0 : Rat) < (x : Rat) := Rat.natCast_pos.mpr e1.2.1; grind)
theorem mf_ab {n : Nat} {w c : List (Nat × Nat)} {t : Rat} {a b : Nat} (k : (Rung.shares w c).Ok n) (h : Lab t a b) (j : Nat) : ∃ m : Nat, m ≤ 19980 ∧ mf w (ratC c) t j * (b : Rat) = (m : Rat) := by
  obtain ⟨h1, h2, h3, h4⟩ := h
  unfold mf
  rw [lk_ratC]
  cases hw : lk w j with
  | none => exact ⟨0, by decide, by simp only; grind⟩
  | some x =>
    have e1 := (k.2.1.el _ (lk_mem hw)).2.2
    have hm : x * a ≤ 19980 := Nat.le_trans (Nat.mul_le_mul e1 h3) (by decide)
    have hx : (x : Rat) * t * (b : Rat) = ((x * a : Nat) : Rat) := by rw [Rat.natCast_mul, ← h4]; grind
    cases hc : lk c j with
    | none => exact ⟨x * a, hm, by simp only [Option.map_none]; exact hx⟩
    | some y =>
      have e2 := (k.2.2.1.el _ (lk_mem hc)).2.2
      simp only [Option.map_some]
      split
      · exact ⟨y * b, Nat.le_trans (Nat.mul_le_mul e2 h2) (by decide), by rw [Rat.natCast_mul]⟩
      · exact ⟨x * a, hm, hx⟩
theorem sn_ab {n : Nat} {w c : List (Nat × Nat)} {t : Rat} {a b : Nat} (k : (Rung.shares w c).Ok n) (h : Lab t a b) : ∀ j : Nat, ∃ m : Nat, m ≤ 19980 * j ∧ sn j (mf w (ratC c) t) * (b : Rat) = (m : Rat)
  | 0 => ⟨0, by decide, by rw [sn_zero]; grind⟩
  | j + 1 => by
    obtain ⟨m, h1, h2⟩ := sn_ab k h j
    obtain ⟨m', h3, h4⟩ := mf_ab k h j
    refine ⟨m + m', by omega, ?_⟩
    rw [sn_succ, Rat.natCast_add, ← h2, ← h4]; grind
theorem eq_div {q : Rat} {m b : Nat} (hb : 0 < b) (h : q * (b : Rat) = (m : Rat)) : q = (m : Rat) / (b : Rat) := by
  have : (0 : Rat) < (b : Rat) := Rat.natCast_pos.mpr hb
  rw [← h]
  exact (Rat.mul_div_cancel (by grind)).symm
/-- what a loop over pieces meets: few bits in all -/
def Gd (h : Nat) : Rat → Rat → List Pc → Prop
  | s, p, [] => Bd 24 s ∧ Bd 24 p
  | s, p, (none, r) :: ps => Bd 24 s ∧ Bd 24 p ∧ Bd 13 (r h) ∧ ps = []
  | s, p, (some l, r) :: ps => Bd 24 s ∧ Bd 24 p ∧ Bd 13 (r h) ∧ Bd 24 l ∧ Gd h (s + l) (p + l * r h) ps
theorem wsum_le {m : Nat} : ∀ {A : List (Nat × Nat)}, (∀ p ∈ A, p.2 ≤ m) → wsum A ≤ m * A.length
  | [], _ => Nat.zero_le _
  | p :: A, h => by
    rw [wsum_cons, List.length_cons, Nat.mul_succ]
    have := h p (by simp)
    have := wsum_le (A := A) fun q hq => h q (List.mem_cons_of_mem _ hq)
    omega
theorem pok_len {n m : Nat} {ps : List (Nat × Nat)} (h : POk n m ps) : ps.length ≤ n := by
  have := nodup_le h.nodup (m := List.range n) fun a ha => by
    obtain ⟨p, hp, rfl⟩ := List.mem_map.mp ha
    exact List.mem_range.mpr (h.el p hp).1
  rw [List.length_map, List.length_range] at this
  exact this
theorem gd_sp {n h : Nat} {w c : List (Nat × Nat)} (k : (Rung.shares w c).Ok n) (hn : n ≤ 5) (S0 P0 : Nat) (hS : S0 ≤ 20000) (hP : P0 ≤ 4000) (qs : List Pc) : ∀ (m : Nat) (A : List (Nat × Nat)) (L : List (Nat × Rat)) (t : Rat), St A L → Lev w c t A L → Lvl w c t → (∀ p ∈ A, p ∈ w) → A.length < m →
    ((∀ p ∈ w, lk c p.1 ≠ none) → Gd h ((S0 : Rat) + sn n (fun j => (capR c j : Rat))) ((P0 : Rat) + (capR c h : Rat)) qs) → ((∃ p ∈ w, lk c p.1 = none) → qs = []) →
    Gd h ((S0 : Rat) + sn n (mf w (ratC c) t)) ((P0 : Rat) + mf w (ratC c) t h) (spGo m A L ++ qs)
  | 0, A, L, t, s, v, hv, hsub, hm, hq, hq2 => by omega
  | m + 1, A, L, t, s, v, hv, hsub, hm, hq, hq2 => by
    obtain ⟨a, b, hab⟩ := hv.ab k
    obtain ⟨u, hu, eu⟩ := sn_ab k hab n
    obtain ⟨u', hu', eu'⟩ := mf_ab k hab h
    obtain ⟨hb0, hb20, ha, ht⟩ := hab
    have bs : Bd 24 ((S0 : Rat) + sn n (mf w (ratC c) t)) := by
      have e : (S0 : Rat) + sn n (mf w (ratC c) t) = ((S0 * b + u : Nat) : Rat) / (b : Rat) := eq_div hb0 (by rw [Rat.natCast_add, Rat.natCast_mul, ← eu]; grind)
      rw [e]
      have h1 : S0 * b ≤ 20000 * 20 := Nat.mul_le_mul hS hb20
      have h2 : 19980 * n ≤ 19980 * 5 := Nat.mul_le_mul_left _ hn
      exact bd_frac hb0 (by omega) (by omega)
    have bp : Bd 24 ((P0 : Rat) + mf w (ratC c) t h) := by
      have e : (P0 : Rat) + mf w (ratC c) t h = ((P0 * b + u' : Nat) : Rat) / (b : Rat) := eq_div hb0 (by rw [Rat.natCast_add, Rat.natCast_mul, ← eu']; grind)
      rw [e]
      have h1 : P0 * b ≤ 4000 * 20 := Nat.mul_le_mul hP hb20
      exact bd_frac hb0 (by omega) (by omega)
    have hAw : ∀ p ∈ A, p.2 ≤ 20 := fun p hp => (k.2.1.el p (hsub p hp)).2.2
    have hAlen : A.length ≤ 5 := by
      have hA' : POk n 20 w := k.2.1
      have := nodup_le (l := A.map (·.1)) (m := List.range n) (by
        unfold List.Nodup
        rw [List.pairwise_map]
        exact s.dA) fun a ha => by
          obtain ⟨p, hp, rfl⟩ := List.mem_map.mp ha
          exact List.mem_range.mpr (hA'.el p (hsub p hp)).1
      rw [List.length_map, List.length_range] at this
      omega
    have hWle : wsum A ≤ 100 := by
      have := wsum_le hAw
      have : 20 * A.length ≤ 20 * 5 := Nat.mul_le_mul_left _ hAlen
      omega
    unfold spGo
    by_cases hA : A = []
    · rw [if_pos hA]
      have hall : ∀ p ∈ w, ∃ x, lk c p.1 = some x ∧ ¬ ((p.2 : Rat) * t < (x : Rat)) := fun p hp => by
        have := v.lA p.1 p.2 (mem_lk k.2.1.dis hp)
        rw [hA] at this
        cases hc : lk c p.1 with
        | none => rw [hc] at this; cases this
        | some x =>
          rw [hc] at this
          refine ⟨x, rfl, fun hlt => ?_⟩
          simp only [hlt, if_true] at this
          cases this
      have hmf : ∀ j, mf w (ratC c) t j = (capR c j : Rat) := fun j => by
        unfold mf capR
        rw [lk_ratC]
        cases hw : lk w j with
        | none =>
          cases hc : lk c j with
          | none => rfl
          | some x =>
            obtain ⟨q, hq, e2⟩ := k.2.2.2 _ (lk_mem hc)
            rw [lk_none] at hw
            exact absurd e2 (hw q hq)
        | some x =>
          obtain ⟨y, h1, h2⟩ := hall (j, x) (lk_mem hw)
          simp only at h1 h2
          rw [h1]
          simp only [Option.map_some]
          rw [if_pos (Rat.not_lt.mp h2)]
          rfl
      rw [List.nil_append, hmf h, show mf w (ratC c) t = fun j => (capR c j : Rat) from funext hmf]
      exact hq fun p hp => by obtain ⟨x, hx, _⟩ := hall p hp; rw [hx]; exact fun z => nomatch z
    · rw [if_neg hA]
      have hW := s.W hA
      have hWn : 0 < wsum A := wsum_pos s.wp hA
      have br : Bd 13 (rt A (wsum A : Rat) h) := by
        unfold rt
        cases hl : lk A h with
        | none => exact (show Bd 13 (0 : Rat) from ⟨by decide, by decide⟩)
        | some x =>
          have := hAw _ (lk_mem hl)
          exact bd_frac hWn (by omega) (by omega)
      cases hl : lenOf L (wsum A : Rat) A none with
      | none =>
        simp only [List.cons_append, List.nil_append]
        have hno := ((lenOf_spec hl).1 rfl).2
        refine ⟨bs, bp, br, hq2 ?_⟩
        cases hA2 : A with
        | nil => exact absurd hA2 hA
        | cons p A' =>
          have hp : p ∈ A := by rw [hA2]; simp
          have hpw := mem_lk k.2.1.dis (hsub p hp)
          have h1 := v.lL p.1 p.2 hpw
          have h2 := v.lA p.1 p.2 hpw
          rw [hno p hp] at h1
          rw [mem_lk s.dA hp] at h2
          refine ⟨p, hsub p hp, ?_⟩
          cases hc : lk c p.1 with
          | none => rfl
          | some x =>
            rw [hc] at h1 h2
            by_cases hlt : (p.2 : Rat) * t < (x : Rat)
            · simp only [hlt, if_true] at h1; cases h1
            · simp only [hlt, if_false] at h2; cases h2
      | some l =>
        have nn := Ln.of s hA hl
        obtain ⟨v2, hv2, hmf⟩ := v.next s nn hA (fun p hp => (k.2.1.el p hp).2.1)
        have bl : Bd 24 l := by
          obtain ⟨a', b', hb0', hb20', ha', ht'⟩ := hv2.ab k
          have e : l = (((wsum A : Int) * ((a' : Int) * b - (a : Int) * b') : Int) : Rat) / ((b * b' : Nat) : Rat) := by
            have hbp : (0 : Rat) < (b : Rat) := Rat.natCast_pos.mpr hb0
            have hbp' : (0 : Rat) < (b' : Rat) := Rat.natCast_pos.mpr hb0'
            have hlw : l = (wsum A : Rat) * (t + l / (wsum A : Rat) - t) := by
              rw [show t + l / (wsum A : Rat) - t = l / (wsum A : Rat) by grind, Rat.mul_comm]
              exact (Rat.div_mul_cancel (by grind)).symm
            generalize t + l / (wsum A : Rat) = t2 at hlw ht'
            have : l * ((b * b' : Nat) : Rat) = (((wsum A : Int) * ((a' : Int) * b - (a : Int) * b') : Int) : Rat) := by
              rw [Rat.intCast_mul, Rat.intCast_sub, Rat.intCast_mul, Rat.intCast_mul, Rat.natCast_mul]
              rw [Rat.intCast_natCast, Rat.intCast_natCast, Rat.intCast_natCast, Rat.intCast_natCast, Rat.intCast_natCast, ← ht, ← ht', hlw]
              grind
            rw [← this]
            exact (Rat.mul_div_cancel (by have := Rat.mul_pos hbp hbp'; rw [Rat.natCast_mul]; grind)).symm
          rw [e]
          have hbb : b * b' ≤ 20 * 20 := Nat.mul_le_mul hb20 hb20'
          have hab1 : a' * b ≤ 999 * 20 := Nat.mul_le_mul ha' hb20
          have hab2 : a * b' ≤ 999 * 20 := Nat.mul_le_mul ha hb20'
          refine bd_fracI (Nat.mul_pos hb0 hb0') ?_ (by omega)
          rw [Int.natAbs_mul]
          have h1 : ((a' : Int) * b - (a : Int) * b').natAbs ≤ 19980 := by
            have e1 : (a' : Int) * b = ((a' * b : Nat) : Int) := by simp
            have e2 : (a : Int) * b' = ((a * b' : Nat) : Int) := by simp
            rw [e1, e2]; omega
          have h2 : ((wsum A : Nat) : Int).natAbs ≤ 100 := by omega
          exact Nat.lt_of_le_of_lt (Nat.mul_le_mul h2 h1) (by decide)
        simp only [List.cons_append]
        refine ⟨bs, bp, br, bl, ?_⟩
        have ih := gd_sp k hn S0 P0 hS hP qs m _ _ _ (s.next nn) v2 hv2 (fun p hp => hsub p (List.mem_filter.mp hp).1) (by have := keepA_short s nn; omega) hq hq2
        have e1 : (S0 : Rat) + sn n (mf w (ratC c) t) + l = (S0 : Rat) + sn n (mf w (ratC c) (t + l / (wsum A : Rat))) := by
          have : mf w (ratC c) (t + l / (wsum A : Rat)) = fun j => mf w (ratC c) t j + rt A (wsum A : Rat) j * l := by funext j; rw [hmf j]; grind
          rw [this, sn_add, sn_mul, (rt_ok (n := n) (o := none) s.dA (fun p hp => (k.2.1.el p (hsub p hp)).1) s.wp hA (fun l e => by cases e)).one]
          grind
        have e2 : (P0 : Rat) + mf w (ratC c) t h + l * rt A (wsum A : Rat) h = (P0 : Rat) + mf w (ratC c) (t + l / (wsum A : Rat)) h := by rw [hmf h]; grind
        rw [e1, e2]
        exact ih
theorem sn_cap {n m : Nat} {c : List (Nat × Nat)} (h : POk n m c) : ∃ u : Nat, u ≤ m * n ∧ sn n (fun j => (capR c j : Rat)) = (u : Rat) := by
  have : ∀ k : Nat, ∃ u : Nat, u ≤ m * k ∧ sn k (fun j => (capR c j : Rat)) = (u : Rat) := by
    intro k
    induction k with
    | zero => exact ⟨0, by omega, rfl⟩
    | succ k ih =>
      obtain ⟨u, h1, h2⟩ := ih
      refine ⟨u + capR c k, ?_, by rw [sn_succ, h2, Rat.natCast_add]⟩
      have : capR c k ≤ m := by
        unfold capR
        cases hc : lk c k with
        | none => exact Nat.zero_le _
        | some v => exact (h.el _ (lk_mem hc)).2.2
      rw [Nat.mul_succ]; omega
  exact this n
theorem capR_le {n m : Nat} {c : List (Nat × Nat)} (h : POk n m c) (k : Nat) : capR c k ≤ m := by
  unfold capR
  cases hc : lk c k with
  | none => exact Nat.zero_le _
  | some v => exact (h.el _ (lk_mem hc)).2.2
theorem gd_lad {n h : Nat} (hn : n ≤ 5) : ∀ (rs : List Rung) (S0 P0 : Nat), (∀ r ∈ rs, r.Ok n) → S0 + 4995 * rs.length ≤ 20000 → P0 + 999 * rs.length ≤ 4000 → Gd h (S0 : Rat) (P0 : Rat) (lpcs rs)
  | [], S0, P0, _, hS, hP => ⟨Bd.nat (by simp at hS; omega) (by decide), Bd.nat (by simp at hP; omega) (by decide)⟩
  | r :: rs, S0, P0, k, hS, hP => by
    have hr := k r (by simp)
    have k' : ∀ q ∈ rs, q.Ok n := fun q hq => k q (List.mem_cons_of_mem _ hq)
    rw [List.length_cons, Nat.mul_succ] at hS hP
    unfold lpcs
    cases r with
    | fixed s =>
      obtain ⟨h1, h2⟩ := hr
      have hw : ∀ p ∈ s, 0 < p.2 := fun p hp => (h2.el p hp).2.1
      have hWn := wsum_pos hw h1
      have hWr : (0 : Rat) < (wsum s : Rat) := Rat.natCast_pos.mpr hWn
      have hWle : wsum s ≤ 4995 := by
        have a := wsum_le fun p hp => (h2.el p hp).2.2
        have b := pok_len h2
        have : 999 * s.length ≤ 999 * 5 := Nat.mul_le_mul_left _ (by omega)
        omega
      have hcap : (wsum s : Rat) * rt s (wsum s : Rat) h = (capR s h : Rat) := by
        unfold rt capR
        cases lk s h with
        | none => show _ * (0 : Rat) = ((0 : Nat) : Rat); grind
        | some x => simp only; rw [Rat.mul_comm]; exact Rat.div_mul_cancel (by grind)
      have br : Bd 13 (rt s (wsum s : Rat) h) := by
        unfold rt
        cases hl : lk s h with
        | none => exact (show Bd 13 (0 : Rat) from ⟨by decide, by decide⟩)
        | some x =>
          have := (h2.el _ (lk_mem hl)).2.2
          exact bd_frac hWn (by omega) (by omega)
      show Gd h (S0 : Rat) (P0 : Rat) ((some (wsum s : Rat), rt s (wsum s : Rat)) :: lpcs rs)
      refine ⟨Bd.nat (by omega) (by decide), Bd.nat (by omega) (by decide), br, Bd.nat (by omega) (by decide), ?_⟩
      rw [hcap, ← Rat.natCast_add, ← Rat.natCast_add]
      have := capR_le h2 h
      exact gd_lad hn rs _ _ k' (by omega) (by omega)
    | shares w c =>
      have hc : POk n 999 c := hr.2.2.1
      have e1 : (S0 : Rat) = (S0 : Rat) + sn n (mf w (ratC c) 0) := by
        rw [show mf w (ratC c) 0 = fun _ => 0 from funext (mf_zero fun p hp => (hc.el p hp).2.1), sn_nul]; grind
      have e2 : (P0 : Rat) = (P0 : Rat) + mf w (ratC c) 0 h := by rw [mf_zero fun p hp => (hc.el p hp).2.1]; grind
      rw [e1, e2]
      refine gd_sp hr hn S0 P0 (by omega) (by omega) _ _ _ _ 0 (St.of hr) (Lev.start hr) (.inl rfl) (fun _ h => h) (by omega) (fun hall => ?_) fun hex => ?_
      · have he : (Rung.shares w c).endless = false := by
          cases he : (Rung.shares w c).endless with
          | false => rfl
          | true =>
            obtain ⟨p, hp, hq⟩ := (endless_iff hr).mp (of_decide_eq_true he)
            exact absurd hq (hall p hp)
        rw [he]
        simp only [Bool.false_eq_true, if_false]
        obtain ⟨u, hu, eu⟩ := sn_cap hc
        have := capR_le hc h
        rw [eu, ← Rat.natCast_add, ← Rat.natCast_add]
        have : 999 * n ≤ 999 * 5 := Nat.mul_le_mul_left _ hn
        exact gd_lad hn rs _ _ k' (by omega) (by omega)
      · have he : (Rung.shares w c).endless = true := decide_eq_true ((endless_iff hr).mpr hex)
        rw [he]; rfl
/-- ladders -/
structure Lad where
  n : Nat
  rs : List Rung
structure Lad.Ok (l : Lad) : Prop where
  n1 : 1 ≤ l.n
  n5 : l.n ≤ 5
  r1 : l.rs ≠ []
  r4 : l.rs.length ≤ 4
  ok : ∀ r ∈ l.rs, r.Ok l.n
  en : ∃ r, l.rs.getLast? = some r ∧ r.endless = true
theorem Lad.Ok.ex {l : Lad} (k : l.Ok) : ∃ r ∈ l.rs, r.endless = true := by
  obtain ⟨r, h1, h2⟩ := k.en
  exact ⟨r, List.mem_of_getLast? h1, h2⟩
theorem Lad.Ok.gd {l : Lad} (k : l.Ok) (h : Nat) : Gd h 0 0 (lpcs l.rs) := by
  have h4 := k.r4
  have := gd_lad (h := h) k.n5 l.rs 0 0 k.ok (by omega) (by omega)
  exact this
/-- the payments of a ladder -/
def Lad.T (l : Lad) (x : Rat) (h : Nat) : Rat := ev (lpcs l.rs) x h
end Mx

namespace Sx
open PySem PySem.Spec PyProof.Rows L2 Mx
/-! ### loops and comprehensions over typed lists -/
theorem cL_ty {α : Type} {g : SG} {c : SB} {e : SE} {ρ0 : Sl} {W : Tw} (enc : α → Dt) (b : α → Bool) (v : α → Dt) : ∀ (xs : List α),
    (∀ x ∈ xs, ∃ ρ1, g (enc x) ρ0 = some ρ1 ∧ c ρ1 W = .ok (b x, W) ∧ (b x = true → e ρ1 W = .ok (v x, W))) → cL g c e ρ0 (xs.map enc) W = .ok ((xs.filter b).map v, W)
  | [], _ => rfl
  | x :: xs, h => by
    obtain ⟨ρ1, h1, h2, h3⟩ := h x (by simp)
    have ih := cL_ty enc b v xs fun y hy => h y (List.mem_cons_of_mem _ hy)
    rw [List.map_cons]
    unfold cL
    simp only [h1, h2, nox_ok, Res.bind_ok]
    cases hb : b x with
    | true =>
      simp only [if_true, h3 hb, nox_ok, Res.bind_ok, ih]
      rw [List.filter_cons_of_pos hb, List.map_cons]
    | false =>
      simp only [Bool.false_eq_true, if_false, ih]
      rw [List.filter_cons_of_neg (by simp [hb])]
theorem cL_map {α : Type} {g : SG} {e : SE} {ρ0 : Sl} {W : Tw} (enc : α → Dt) (v : α → Dt) (xs : List α)
    (h : ∀ x ∈ xs, ∃ ρ1, g (enc x) ρ0 = some ρ1 ∧ e ρ1 W = .ok (v x, W)) : cL g bYes e ρ0 (xs.map enc) W = .ok (xs.map v, W) := by
  have := cL_ty (c := bYes) enc (fun _ => true) v xs fun x hx => by
    obtain ⟨ρ1, h1, h2⟩ := h x hx
    exact ⟨ρ1, h1, rfl, fun _ => h2⟩
  rw [this, List.filter_eq_self.mpr fun _ _ => rfl]
/-! ### how a ladder is written -/
def pr (p : Nat × Nat) : Dt := .tuple [.int p.1, .int p.2]
def prs (ps : List (Nat × Nat)) : Dt := .tuple (ps.map pr)
def rd : Rung → Dt
  | .fixed s => .tuple [.str "fixed", prs s]
  | .shares w c => .tuple [.str "shares", prs w, prs c]
def ld (l : Lad) : Dt := .tuple [.int l.n, .tuple (l.rs.map rd)]
@[simp] theorem lenD_t {ds : List Dt} : lenD [.tuple ds] = some (.int ds.length) := rfl
@[simp] theorem lenD_l {ds : List Dt} : lenD [.list ds] = some (.int ds.length) := rfl
@[simp] theorem tupleD_l {ds : List Dt} : tupleD [.list ds] = some (.tuple ds) := rfl
@[simp] theorem tupleD_t {ds : List Dt} : tupleD [.tuple ds] = some (.tuple ds) := rfl
@[simp] theorem listL_l {ds : List Dt} : listL [.list ds] = some ds := rfl
@[simp] theorem listL_t {ds : List Dt} : listL [.tuple ds] = some ds := rfl
theorem intsOf_map : ∀ (ns : List Int), intsOf (ns.map PyData.int) = some ns
  | [] => rfl
  | n :: ns => by
    rw [List.map_cons]
    show (intsOf (ns.map PyData.int)).map (n :: ·) = _
    rw [intsOf_map ns]; rfl
theorem blsOf_map : ∀ (ns : List Bool), blsOf (ns.map PyData.bool) = some ns
  | [] => rfl
  | n :: ns => by
    rw [List.map_cons]
    show (blsOf (ns.map PyData.bool)).map (n :: ·) = _
    rw [blsOf_map ns]; rfl
theorem sumD_map {α : Type} (f : α → Int) (xs : List α) : sumD [.list (xs.map fun x => PyData.int (f x))] = some (.int (xs.map f).sum) := by
  have := intsOf_map (xs.map f)
  rw [List.map_map] at this
  show (intsOf (xs.map fun x => PyData.int (f x))).map _ = _
  rw [show (xs.map fun x => PyData.int (f x)) = xs.map (PyData.int ∘ f) from rfl, this]
  rfl
theorem allD_map {α : Type} (f : α → Bool) (xs : List α) : allD [.list (xs.map fun x => PyData.bool (f x))] = some (.bool (xs.all f)) := by
  have := blsOf_map (xs.map f)
  rw [List.map_map] at this
  show (blsOf (xs.map fun x => PyData.bool (f x))).map _ = _
  rw [show (xs.map fun x => PyData.bool (f x)) = xs.map (PyData.bool ∘ f) from rfl, this]
  show some (PyData.bool ((xs.map f).all id)) = _
  rw [List.all_map]
  rfl
@[simp] theorem isi_int_int {i : Int} : isiD "int" (.int i) = some (.bool true) := by rfl
@[simp] theorem isi_int_bool {i : Int} : isiD "bool" (.int i) = some (.bool false) := by rfl
@[simp] theorem isi_tup {ds : List Dt} : isiD "tuple" (.tuple ds) = some (.bool true) := by rfl
@[simp] theorem isi_str {z : Str} : isiD "str" (.str z) = some (.bool true) := by rfl
theorem is_between_ok {v lo hi : Int} : F_is_between [.int v, .int lo, .int hi] = .ok (.bool (decide (lo ≤ v) && decide (v ≤ hi))) := by
  unfold F_is_between
  simp only [B_is_between]
  simp
  by_cases h : lo ≤ v <;> simp [h]
theorem eqD_str {a b : Str} {k : Bool} (ha : SeqAt.shaped (.str a) = true) (hb : SeqAt.shaped (.str b) = true) (hk : (a == b) = k) : eqD (.str a) (.str b) = some (.bool k) := by
  unfold eqD; rw [ha, hb, ← hk]; rfl
theorem neD_str {a b : Str} {k : Bool} (ha : SeqAt.shaped (.str a) = true) (hb : SeqAt.shaped (.str b) = true) (hk : (a == b) = k) : neD (.str a) (.str b) = some (.bool (!k)) := by
  unfold neD; rw [ha, hb, ← hk]; rfl
@[simp] theorem eq_fixed : eqD (.str "fixed") (.str "fixed") = some (.bool true) := eqD_str (by decide +kernel) (by decide +kernel) (by decide +kernel)
@[simp] theorem eq_sf : eqD (.str "shares") (.str "fixed") = some (.bool false) := eqD_str (by decide +kernel) (by decide +kernel) (by decide +kernel)
@[simp] theorem eq_fs : eqD (.str "fixed") (.str "shares") = some (.bool false) := eqD_str (by decide +kernel) (by decide +kernel) (by decide +kernel)
@[simp] theorem eq_shares : eqD (.str "shares") (.str "shares") = some (.bool true) := eqD_str (by decide +kernel) (by decide +kernel) (by decide +kernel)
@[simp] theorem ne_shares : neD (.str "shares") (.str "shares") = some (.bool false) := neD_str (k := true) (by decide +kernel) (by decide +kernel) (by decide +kernel)
@[simp] theorem ne_fs : neD (.str "fixed") (.str "shares") = some (.bool true) := neD_str (k := false) (by decide +kernel) (by decide +kernel) (by decide +kernel)
theorem is_endless_ok (r : Rung) : F_is_endless [rd r] = .ok (.bool r.endless) := by
  unfold F_is_endless
  simp only [B_is_endless]
  cases r with
  | fixed s => simp [rd, Rung.endless]
  | shares w c => simp [rd, prs, Rung.endless]
end Sx

namespace Sx
open PySem PySem.Spec PyProof.Rows L2 Mx
theorem fL_ret {α : Type} {g : SG} {body : SS} {W : Tw} (enc : α → Dt) (q : α → Bool) (r : SV) (J : Sl → Prop) : ∀ (xs : List α) (ρ : Sl), J ρ →
    (∀ x ∈ xs, ∀ ρ, J ρ → ∃ ρ1, g (enc x) ρ = some ρ1 ∧ (q x = true → ∃ ρ2, body ρ1 W = .nx ρ2 W ∧ J ρ2) ∧ (q x = false → body ρ1 W = .rt r W)) →
    (xs.all q = true → ∃ ρ', fL g body (xs.map enc) ρ W = .nx ρ' W ∧ J ρ') ∧ (xs.all q = false → fL g body (xs.map enc) ρ W = .rt r W)
  | [], ρ, j, _ => ⟨fun _ => ⟨ρ, rfl, j⟩, fun h => by cases h⟩
  | x :: xs, ρ, j, h => by
    obtain ⟨ρ1, h1, h2, h3⟩ := h x (by simp) ρ j
    rw [List.map_cons, List.all_cons]
    have e : fL g body (enc x :: xs.map enc) ρ W = (match body ρ1 W with | .nx ρ2 W2 => fL g body (xs.map enc) ρ2 W2 | r => r) := by
      show (match g (enc x) ρ with | none => Out.bad | some ρ1 => match body ρ1 W with | .nx ρ2 W2 => fL g body (xs.map enc) ρ2 W2 | r => r) = _
      rw [h1]
    rw [e]
    cases hq : q x with
    | false => rw [h3 hq]; exact ⟨fun z => by simp at z, fun _ => rfl⟩
    | true =>
      obtain ⟨ρ2, h4, h5⟩ := h2 hq
      rw [h4]
      simp only [Bool.true_and]
      exact fL_ret enc q r J xs ρ2 h5 fun y hy => h y (List.mem_cons_of_mem _ hy)
def pairB (n m : Nat) (p : Nat × Nat) : Bool := decide (p.1 < n) && (decide (1 ≤ p.2) && decide (p.2 ≤ m))
def incB (ps : List (Nat × Nat)) : Bool := (List.range (ps.length - 1)).all fun k => decide ((ps.getD k (0, 0)).1 < (ps.getD (k + 1) (0, 0)).1)
theorem incB_iff : ∀ ps : List (Nat × Nat), incB ps = true ↔ ps.Pairwise (fun a b => a.1 < b.1)
  | [] => by simp [incB]
  | [p] => by simp [incB]
  | p :: q :: ps => by
    have ih := incB_iff (q :: ps)
    have e : incB (p :: q :: ps) = (decide (p.1 < q.1) && incB (q :: ps)) := by
      unfold incB
      show (List.range (ps.length + 1)).all _ = _
      rw [List.range_succ_eq_map, List.all_cons, List.all_map]
      rfl
    rw [e, Bool.and_eq_true, decide_eq_true_eq, ih]
    rw [List.pairwise_cons (a := p)]
    constructor
    · rintro ⟨h1, h2⟩
      refine ⟨fun b hb => ?_, h2⟩
      rcases List.mem_cons.mp hb with z | z
      · rw [z]; exact h1
      · exact Nat.lt_trans h1 ((List.pairwise_cons.mp h2).1 b z)
    · rintro ⟨h1, h2⟩
      exact ⟨h1 q (by simp), h2⟩
@[simp] theorem isi_prs {ps} : isiD "tuple" (prs ps) = some (.bool true) := by rfl
@[simp] theorem isi_pr {p} : isiD "tuple" (pr p) = some (.bool true) := by rfl
@[simp] theorem len_prs {ps : List (Nat × Nat)} : lenD [prs ps] = some (.int ps.length) := by
  show some (PyData.int ((ps.map pr).length : Int)) = _
  rw [List.length_map]
@[simp] theorem len_pr {p} : lenD [pr p] = some (.int 2) := by rfl
@[simp] theorem seq_prs {ps : List (Nat × Nat)} : seqOf (prs ps) = some (ps.map pr) := by rfl
@[simp] theorem ix_pr0 {p : Nat × Nat} : ixD (pr p) (.int 0) = some (.int p.1) := by rfl
@[simp] theorem ix_pr1 {p : Nat × Nat} : ixD (pr p) (.int 1) = some (.int p.2) := by rfl
@[simp] theorem gTu_pr {p : Nat × Nat} {gs : SGs} {ρ : Sl} : gTu 2 gs (pr p) ρ = gs [.int p.1, .int p.2] ρ := by rfl
@[simp] theorem list_prs {ps : List (Nat × Nat)} : listL [prs ps] = some (ps.map pr) := by rfl
theorem ix_prs {ps : List (Nat × Nat)} {i : Nat} (h : i < ps.length) : ixD (prs ps) (.int (i : Int)) = some (pr (ps.getD i (0, 0))) := by
  show atI (ps.map pr) (i : Int) = _
  rw [atI_nat (by simp; omega), List.getElem?_map, List.getD_eq_getElem?_getD, List.getElem?_eq_getElem (by omega)]; rfl
theorem rngOf_len {n : Nat} (h : n ≤ 1000) : rngOf [.int ((n : Int) - 1)] = some ((List.range (n - 1)).map fun (i : Nat) => PyData.int (i : Int)) := by
  show (if ((n : Int) - 1) ≤ 100000 ∧ -100000 ≤ ((n : Int) - 1) then some (rngD ((n : Int) - 1)) else none) = _
  rw [if_pos (by omega)]
  unfold rngD
  rw [show ((n : Int) - 1).toNat = n - 1 by omega]
theorem are_pairs_loop {n m : Nat} {x y : Option SV} (ps : List (Nat × Nat)) : (ps.all (pairB n m) = true → ∃ ρ', fL (gN 4) lB_are_pairs_1 (ps.map pr) [some (.d (.int n)), x, some (.d (.int m)), y, none, none] none = .nx ρ' none ∧ ∃ a, ρ' = [some (.d (.int n)), x, some (.d (.int m)), y, a, none]) ∧ (ps.all (pairB n m) = false → fL (gN 4) lB_are_pairs_1 (ps.map pr) [some (.d (.int n)), x, some (.d (.int m)), y, none, none] none = .rt (.d (.bool false)) none) := fL_ret (W := none) (g := gN 4) (body := lB_are_pairs_1) pr (pairB n m) (.d (.bool false))
    (fun ρ => ∃ a, ρ = [some (.d (.int n)), x, some (.d (.int m)), y, a, none]) ps [some (.d (.int n)), x, some (.d (.int m)), y, none, none] ⟨_, rfl⟩ (by
      rintro p hx ρ ⟨a, rfl⟩
      refine ⟨[some (.d (.int n)), x, some (.d (.int m)), y, some (.d (pr p)), none], by simp, fun hq => ⟨[some (.d (.int n)), x, some (.d (.int m)), y, some (.d (pr p)), none], ?_, ⟨_, rfl⟩⟩, fun hq => ?_⟩
      · unfold pairB at hq
        simp only [Bool.and_eq_true, decide_eq_true_eq] at hq
        simp [lB_are_pairs_1, is_between_ok, show (p.1 : Int) ≤ (n : Int) - 1 by omega, show (1 : Int) ≤ (p.2 : Int) by omega, show p.2 ≤ m by omega]
      · unfold pairB at hq
        by_cases h1 : p.1 < n
        · have h2 : ¬ (1 ≤ p.2 ∧ p.2 ≤ m) := fun z => by simp [h1, z.1, z.2] at hq
          simp [lB_are_pairs_1, is_between_ok, show (p.1 : Int) ≤ (n : Int) - 1 by omega]
          by_cases h3 : 1 ≤ p.2
          · simp [show (1 : Int) ≤ (p.2 : Int) by omega, show m < p.2 from Nat.lt_of_not_le fun z => h2 ⟨h3, z⟩]
          · simp [show ¬ (1 : Int) ≤ (p.2 : Int) by omega]
        · simp [lB_are_pairs_1, is_between_ok, show ¬ (p.1 : Int) ≤ (n : Int) - 1 by omega])
theorem are_pairs_comp {a b c d e : Option SV} (ps : List (Nat × Nat)) : cL (gN 5) bYes cE_are_pairs_2 [a, some (.d (prs ps)), b, c, d, none] ((List.range (ps.length - 1)).map fun (i : Nat) => PyData.int (i : Int)) none = .ok ((List.range (ps.length - 1)).map fun k => PyData.bool (decide ((ps.getD k (0, 0)).1 < (ps.getD (k + 1) (0, 0)).1)), none) := by
  refine cL_map (fun (i : Nat) => PyData.int (i : Int)) _ _ fun i hi => ⟨_, by simp; rfl, ?_⟩
  have hi := List.mem_range.mp hi
  have e1 := ix_prs (ps := ps) (i := i) (by omega)
  have e2 := ix_prs (ps := ps) (i := i + 1) (by omega)
  rw [Int.natCast_add] at e2
  simp only [cE_are_pairs_2]
  simp at e2
  simp [e1, e2]
theorem are_pairs_ok {n m k : Nat} (ps : List (Nat × Nat)) (hl : ps.length ≤ 1000) : F_are_pairs [.int n, prs ps, .int m, .int k] = .ok (.bool (!decide (ps.length < k) && (ps.all (pairB n m) && incB ps))) := by
  have hloop := are_pairs_loop (n := n) (m := m) (x := some (.d (prs ps))) (y := some (.d (.int k))) ps
  unfold F_are_pairs
  simp only [B_are_pairs]
  by_cases hk : ps.length < k
  · simp [hk]
  · cases hall : ps.all (pairB n m) with
    | false => simp [hk, hloop.2 hall]
    | true =>
      obtain ⟨ρ', h1, a, rfl⟩ := hloop.1 hall
      have e6 := allD_map (fun k => decide ((ps.getD k (0, 0)).1 < (ps.getD (k + 1) (0, 0)).1)) (List.range (ps.length - 1))
      have hc := are_pairs_comp (a := some (.d (.int n))) (b := some (.d (.int m))) (c := some (.d (.int k))) (d := a) (e := none) ps
      simp [hk, h1, rngOf_len hl, wipeOk, show ps.length - 1 ≤ 100000 by omega, hc, allD_map, incB]

theorem pokB_iff {n m : Nat} {ps : List (Nat × Nat)} : (ps.all (pairB n m) && incB ps) = true ↔ POk n m ps := by
  rw [Bool.and_eq_true, incB_iff, List.all_eq_true]
  constructor
  · rintro ⟨h1, h2⟩
    exact ⟨fun p hp => by have := h1 p hp; unfold pairB at this; simpa using this, h2⟩
  · rintro ⟨h1, h2⟩
    exact ⟨fun p hp => by have := h1 p hp; unfold pairB; simpa using this, h2⟩
/-! a rung -/
def rungB (n : Nat) : Rung → Bool
  | .fixed s => !decide (s.length < 1) && (s.all (pairB n 999) && incB s)
  | .shares w c => (!decide (w.length < 1) && (w.all (pairB n 20) && incB w)) && ((c.all (pairB n 999) && incB c) && c.all fun p => (w.map (·.1)).contains p.1)
theorem rungB_iff {n : Nat} {r : Rung} : rungB n r = true ↔ r.Ok n := by
  cases r with
  | fixed s =>
    unfold rungB Rung.Ok
    rw [Bool.and_eq_true, pokB_iff]
    cases s <;> simp
  | shares w c =>
    show ((!decide (w.length < 1) && (w.all (pairB n 20) && incB w)) && ((c.all (pairB n 999) && incB c) && c.all fun p => (w.map (·.1)).contains p.1)) = true ↔ w ≠ [] ∧ POk n 20 w ∧ POk n 999 c ∧ ∀ p ∈ c, ∃ q ∈ w, q.1 = p.1
    rw [Bool.and_eq_true (!decide (w.length < 1) && (w.all (pairB n 20) && incB w)), Bool.and_eq_true (!decide (w.length < 1)), Bool.and_eq_true (c.all (pairB n 999) && incB c), pokB_iff, pokB_iff]
    have : (c.all fun p => (w.map (·.1)).contains p.1) = true ↔ ∀ p ∈ c, ∃ q ∈ w, q.1 = p.1 := by
      rw [List.all_eq_true]
      constructor
      · intro h p hp
        have := h p hp
        rw [List.contains_iff_mem, List.mem_map] at this
        exact this
      · intro h p hp
        rw [List.contains_iff_mem, List.mem_map]
        exact h p hp
    rw [this]
    cases w <;> simp [and_assoc]
theorem inB_map {k : Nat} : ∀ (ks : List Nat), inB (.int (k : Int)) (ks.map fun (j : Nat) => PyData.int (j : Int)) = ks.contains k
  | [] => rfl
  | j :: ks => by
    rw [List.map_cons]
    unfold inB
    rw [List.any_cons]
    have ih := inB_map (k := k) ks
    unfold inB at ih
    rw [ih, List.contains_cons]
    congr 1
    show (((j : Nat) : Int) == (k : Int)) = (k == j)
    rw [Bool.eq_iff_iff]
    simp
    omega
theorem shaped_ints : ∀ (ks : List Nat), SeqAt.shaped (.list (ks.map fun (j : Nat) => PyData.int (j : Int))) = true := by
  intro ks
  have h1 : ∀ ks : List Nat, PyData.canLayAll0 (ks.map fun (j : Nat) => PyData.int (j : Int)) = true := by
    intro ks
    induction ks with
    | nil => rfl
    | cons k ks ih => rw [List.map_cons]; exact ih
  have h2 : ∀ ks : List Nat, PyData.depthAll (ks.map fun (j : Nat) => PyData.int (j : Int)) = 0 := by
    intro ks
    induction ks with
    | nil => rfl
    | cons k ks ih => rw [List.map_cons]; show max 0 (PyData.depthAll _) = 0; rw [ih]; rfl
  have e : SeqAt.shaped (.list (ks.map fun (j : Nat) => PyData.int (j : Int))) = (PyData.canLayAll0 (ks.map fun (j : Nat) => PyData.int (j : Int)) && decide (PyData.depthAll (ks.map fun (j : Nat) => PyData.int (j : Int)) + 1 ≤ 64)) := rfl
  rw [e, h1, h2]
  rfl
theorem inD_ints {k : Nat} {ks : List Nat} : inD (.int (k : Int)) (.list (ks.map fun (j : Nat) => PyData.int (j : Int))) = some (.bool (ks.contains k)) := by
  show (if SeqAt.shaped (.int (k : Int)) && SeqAt.shaped (.list (ks.map fun (j : Nat) => PyData.int (j : Int))) then some (PyData.bool (inB (.int (k : Int)) (ks.map fun (j : Nat) => PyData.int (j : Int)))) else none) = _
  rw [shaped_ints, inB_map]
  rfl
theorem is_rung_ok {n : Nat} {r : Rung} (hl : r.A.length ≤ 1000 ∧ r.C.length ≤ 1000) : F_is_rung [.int n, rd r] = .ok (.bool (rungB n r)) := by
  unfold F_is_rung
  simp only [B_is_rung]
  cases r with
  | fixed s =>
    have h : F_are_pairs [.int n, prs s, .int 999, .int 1] = .ok (.bool (!decide (s.length < 1) && (s.all (pairB n 999) && incB s))) := are_pairs_ok (n := n) (m := 999) (k := 1) s hl.1
    show _ = Res.ok (PyData.bool (!decide (s.length < 1) && (s.all (pairB n 999) && incB s)))
    generalize (!decide (s.length < 1) && (s.all (pairB n 999) && incB s)) = bs at h ⊢
    simp [rd, h]
  | shares w c =>
    have hl1 : w.length ≤ 1000 := hl.1
    have hl2 : c.length ≤ 1000 := hl.2
    have h1 : F_are_pairs [.int n, prs w, .int 20, .int 1] = .ok (.bool (!decide (w.length < 1) && (w.all (pairB n 20) && incB w))) := are_pairs_ok (n := n) (m := 20) (k := 1) w hl.1
    have h2 : F_are_pairs [.int n, prs c, .int 999, .int 0] = .ok (.bool (!decide (c.length < 0) && (c.all (pairB n 999) && incB c))) := are_pairs_ok (n := n) (m := 999) (k := 0) c hl.2
    rw [show (!decide (c.length < 0)) = true by simp, Bool.true_and] at h2
    have hr : rungB n (.shares w c) = ((!decide (w.length < 1) && (w.all (pairB n 20) && incB w)) && ((c.all (pairB n 999) && incB c) && c.all fun p => (w.map (·.1)).contains p.1)) := rfl
    rw [hr]
    generalize (!decide (w.length < 1) && (w.all (pairB n 20) && incB w)) = bw at h1 ⊢
    generalize (c.all (pairB n 999) && incB c) = bc at h2 ⊢
    have hc1 : cL (gTu 2 (gsCons (gN 3) (gsCons (gN 4) gsNil))) bYes cE_is_rung_1 [some (.d (.int n)), some (.d (rd (.shares w c))), none, none, none, none] (w.map pr) none = .ok (w.map (fun p => PyData.int (p.1 : Int)), none) := by
      refine cL_map pr _ _ fun p hp => ⟨_, by simp; rfl, ?_⟩
      simp [cE_is_rung_1]
    have hc2 : cL (gTu 2 (gsCons (gN 3) (gsCons (gN 5) gsNil))) bYes cE_is_rung_2 [some (.d (.int n)), some (.d (rd (.shares w c))), some (.d (.list (w.map (fun p => PyData.int (p.1 : Int))))), none, none, none] (c.map pr) none = .ok (c.map (fun p => PyData.bool ((w.map (·.1)).contains p.1)), none) := by
      refine cL_map pr _ _ fun p hp => ⟨_, by simp; rfl, ?_⟩
      have := inD_ints (k := p.1) (ks := w.map (·.1))
      rw [List.map_map] at this
      simp only [cE_is_rung_2]
      simp only [eBin_s, eVar_s]
      have this : inD (.int (p.1 : Int)) (.list (w.map (fun p => PyData.int (p.1 : Int)))) = some (.bool ((w.map (·.1)).contains p.1)) := this
      simp [this]
    simp only [rd] at hc1 hc2 ⊢
    cases bw with
    | false => simp [h1]
    | true =>
      cases bc with
      | false => simp [h1, h2]
      | true => simp [h1, h2, wipeOk, hc1, hc2, allD_map, show w.length ≤ 100000 by omega, show c.length ≤ 100000 by omega]
end Sx

namespace Sx
open PySem PySem.Spec PyProof.Rows L2 Mx
@[simp] theorem ix_ld0 {l : Lad} : ixD (ld l) (.int 0) = some (.int l.n) := by rfl
@[simp] theorem ix_ld1 {l : Lad} : ixD (ld l) (.int 1) = some (.tuple (l.rs.map rd)) := by rfl
@[simp] theorem isi_ld {l : Lad} : isiD "tuple" (ld l) = some (.bool true) := by rfl
@[simp] theorem len_ld {l : Lad} : lenD [ld l] = some (.int 2) := by rfl
@[simp] theorem gTu_ld {l : Lad} {gs : SGs} {ρ : Sl} : gTu 2 gs (ld l) ρ = gs [.int l.n, .tuple (l.rs.map rd)] ρ := by rfl
theorem is_ladder_ok {n : Nat} {rs : List Rung} {r : Rung} (h1 : 1 ≤ n) (h5 : n ≤ 5) (hr : rs.length ≤ 3) (hl : ∀ q ∈ rs ++ [r], q.A.length ≤ 1000 ∧ q.C.length ≤ 1000) :
    F_is_ladder [ld ⟨n, rs ++ [r]⟩] = .ok (.bool ((rs ++ [r]).all (rungB n) && r.endless)) := by
  have hc : cL (gN 3) bYes cE_is_ladder_1 [some (.d (ld ⟨n, rs ++ [r]⟩)), some (.d (.int n)), some (.d (.tuple ((rs ++ [r]).map rd))), none] ((rs ++ [r]).map rd) none = .ok ((rs ++ [r]).map (fun q => PyData.bool (rungB n q)), none) := by
    refine cL_map rd _ _ fun q hq => ⟨_, by simp; rfl, ?_⟩
    simp [cE_is_ladder_1, is_rung_ok (n := n) (hl q hq)]
  have hat : atI ((rs ++ [r]).map rd) (-1) = some (rd r) := by rw [List.map_append]; exact atI_last
  unfold F_is_ladder
  simp only [B_is_ladder]
  generalize hL : rs ++ [r] = L at *
  have hlen : L.length = rs.length + 1 := by rw [← hL]; simp
  have ha : allD [.list (L.map fun q => PyData.bool (rungB n q))] = some (.bool (L.all (rungB n))) := allD_map _ _
  generalize L.all (rungB n) = b at ha ⊢
  cases b <;> simp [is_between_ok, show (1 : Int) ≤ (n : Int) by omega, show (n : Int) ≤ 5 by omega, hlen, show (1 : Int) ≤ (rs.length : Int) + 1 by omega, show (rs.length : Int) + 1 ≤ 4 by omega, wipeOk, show rs.length + 1 ≤ 100000 by omega, hc, ha, hat, is_endless_ok]
theorem ladB_iff {n : Nat} {rs : List Rung} {r : Rung} (h1 : 1 ≤ n) (h5 : n ≤ 5) (hr : rs.length ≤ 3) : ((rs ++ [r]).all (rungB n) && r.endless) = true ↔ Lad.Ok ⟨n, rs ++ [r]⟩ := by
  rw [Bool.and_eq_true, List.all_eq_true]
  constructor
  · rintro ⟨a, b⟩
    exact ⟨h1, h5, by simp, by simp; omega, fun q hq => rungB_iff.mp (a q hq), r, by simp, b⟩
  · intro k
    obtain ⟨r', e1, e2⟩ := k.en
    simp at e1
    subst e1
    exact ⟨fun q hq => rungB_iff.mpr (k.ok q hq), e2⟩
theorem Ok_len {n : Nat} {r : Rung} (h : r.Ok n) (h5 : n ≤ 5) : r.A.length ≤ 1000 ∧ r.C.length ≤ 1000 := by
  cases r with
  | fixed s => have := pok_len h.2; exact ⟨by show s.length ≤ _; omega, by show s.length ≤ _; omega⟩
  | shares w c => have := pok_len h.2.1; have := pok_len h.2.2.1; exact ⟨by show w.length ≤ _; omega, by show c.length ≤ _; omega⟩
theorem is_ladder_true {l : Lad} (k : l.Ok) : F_is_ladder [ld l] = .ok (.bool true) := by
  obtain ⟨n, rs⟩ := l
  obtain ⟨r, e1, e2⟩ := k.en
  obtain ⟨qs, e3⟩ : ∃ qs, rs = qs ++ [r] := by
    have := List.getLast?_eq_some_iff.mp e1
    exact this
  subst e3
  have h4 := k.r4
  simp at h4
  rw [is_ladder_ok k.n1 k.n5 (by omega) fun q hq => Ok_len (k.ok q hq) k.n5, (ladB_iff k.n1 k.n5 (by omega)).mpr k]
theorem check_ladder_ok {l : Lad} (k : l.Ok) : F_check_ladder [ld l] = .ok .none := by
  unfold F_check_ladder
  simp only [B_check_ladder]
  simp [is_ladder_true k]
/-! amounts -/
structure Amt (q : Rat) : Prop where
  nn : 0 ≤ q
  le : q ≤ 1000000
  dn : q.den ≤ 1000
@[simp] theorem isi_fr {q} : isiD "tuple" (fr q) = some (.bool true) := by rfl
@[simp] theorem len_fr {q} : lenD [fr q] = some (.int 2) := by rfl
@[simp] theorem ix_fr0 {q : Rat} : ixD (fr q) (.int 0) = some (.int q.num) := by rfl
@[simp] theorem ix_fr1 {q : Rat} : ixD (fr q) (.int 1) = some (.int q.den) := by rfl
theorem is_amount_ok {q : Rat} (h : Amt q) : F_is_amount [fr q] = .ok (.bool true) := by
  have h0 : 0 ≤ q.num := Rat.num_nonneg.mpr h.nn
  have h1 : q.num ≤ 1000000 * (q.den : Int) := by
    have := (Rat.le_iff q 1000000).mp h.le
    simpa using this
  have hd : 0 < q.den := Nat.pos_of_ne_zero q.den_nz
  have hdd := h.dn
  have hg := divisor_ok q.num q.den
  rw [q.reduced] at hg
  have hm : mulOk 1000000 (q.den : Int) = true := mulOk_of (j := 20) (k := 10) (by decide) (by rw [Int.natAbs_natCast]; exact Nat.lt_of_le_of_lt hdd (by decide)) (by decide)
  unfold F_is_amount
  simp only [B_is_amount]
  simp [is_between_ok, show (1 : Int) ≤ (q.den : Int) by omega, show (q.den : Int) ≤ 1000 by omega, hm, h0, h1, hg]
theorem check_amount_ok {q : Rat} (h : Amt q) : F_check_amount [fr q] = .ok .none := by
  unfold F_check_amount
  simp only [B_check_amount]
  simp [is_amount_ok h]
theorem Amt.bd {q : Rat} (h : Amt q) : Bd 30 q := by
  have h0 : 0 ≤ q.num := Rat.num_nonneg.mpr h.nn
  have h1 : q.num ≤ 1000000 * (q.den : Int) := by
    have := (Rat.le_iff q 1000000).mp h.le
    simpa using this
  have := h.dn
  refine ⟨?_, Nat.lt_of_le_of_lt this (by decide)⟩
  have : q.num.natAbs ≤ 1000000000 := by omega
  exact Nat.lt_of_le_of_lt this (by decide)
end Sx

namespace Sx
open PySem PySem.Spec PyProof.Rows L2 Mx
theorem fL_pre' {α : Type} {g : SG} {body : SS} {W : Tw} (enc : α → Dt) (I : List α → Sl → Prop) (ys : List α)
    (h : ∀ pre x post ρ, ys = pre ++ x :: post → I pre ρ → ∃ ρ1 ρ2, g (enc x) ρ = some ρ1 ∧ body ρ1 W = .nx ρ2 W ∧ I (pre ++ [x]) ρ2) : ∀ (xs pre : List α) (ρ : Sl), ys = pre ++ xs → I pre ρ → ∃ ρ', fL g body (xs.map enc) ρ W = .nx ρ' W ∧ I ys ρ'
  | [], pre, ρ, e, i => ⟨ρ, rfl, by rw [e, List.append_nil]; exact i⟩
  | x :: xs, pre, ρ, e, i => by
    obtain ⟨ρ1, ρ2, h1, h2, h3⟩ := h pre x xs ρ e i
    obtain ⟨ρ', h4, h5⟩ := fL_pre' enc I ys h xs (pre ++ [x]) ρ2 (by rw [e]; simp) h3
    refine ⟨ρ', ?_, h5⟩
    rw [List.map_cons]
    show (match g (enc x) ρ with | none => Out.bad | some ρ1 => match body ρ1 W with | .nx ρ2 W2 => fL g body (xs.map enc) ρ2 W2 | r => r) = _
    rw [h1]
    simp only [h2, h4]
theorem fL_pre {α : Type} {g : SG} {body : SS} {W : Tw} (enc : α → Dt) (I : List α → Sl → Prop) (xs : List α) (ρ : Sl) (i : I [] ρ)
    (h : ∀ pre x post ρ, xs = pre ++ x :: post → I pre ρ → ∃ ρ1 ρ2, g (enc x) ρ = some ρ1 ∧ body ρ1 W = .nx ρ2 W ∧ I (pre ++ [x]) ρ2) : ∃ ρ', fL g body (xs.map enc) ρ W = .nx ρ' W ∧ I xs ρ' :=
  fL_pre' enc I xs h xs [] ρ rfl i
/-! ### rates -/
def rtL (n : Nat) (r : Nat → Rat) : List Dt := (List.range n).map fun h => fr (r h)
def lnD : Option Rat → Dt
  | none => .none
  | some l => fr l
def pcD (n : Nat) (pc : Pc) : Dt := .tuple [lnD pc.1, .tuple (rtL n pc.2)]
theorem rtL_len {n r} : (rtL n r).length = n := by simp [rtL]
theorem ixN_nat {n h : Nat} (hh : h < n) : ixN n (h : Int) = some h := by
  unfold ixN
  rw [if_pos (by omega), if_pos (by omega)]; rfl
theorem set_rtL {n h : Nat} {r : Nat → Rat} {v : Rat} (hh : h < n) : setD (rtL n r) (.int (h : Int)) (fr v) = some (rtL n fun j => if j = h then v else r j) := by
  show (ixN (rtL n r).length (h : Int)).map _ = _
  rw [rtL_len, ixN_nat hh]
  show some ((rtL n r).set h (fr v)) = _
  congr 1
  refine List.ext_getElem? fun j => ?_
  unfold rtL
  by_cases hj : h = j
  · subst hj
    rw [List.getElem?_set_self (by simpa using hh), List.getElem?_map, List.getElem?_range hh]
    simp
  · rw [List.getElem?_set_ne hj, List.getElem?_map, List.getElem?_map]
    by_cases hjn : j < n
    · rw [List.getElem?_range hjn]
      simp [Ne.symm hj]
    · rw [List.getElem?_eq_none (by simpa using hjn)]; rfl
theorem ix_rtL {n h : Nat} {r : Nat → Rat} (hh : h < n) : atI (rtL n r) (h : Int) = some (fr (r h)) := by
  rw [atI_nat (by rw [rtL_len]; exact hh)]
  unfold rtL
  rw [List.getElem?_map, List.getElem?_range hh]; rfl
theorem mulL_zero {n : Nat} (h : n ≤ 5) : mulL (.list [.tuple [.int 0, .int 1]]) (.int (n : Int)) = some (rtL n fun _ => 0) := by
  show (if (n : Int) ≤ 1000 ∧ -1000 ≤ (n : Int) ∧ 1 ≤ 1000 then some (List.replicate (n : Int).toNat [PyData.tuple [.int 0, .int 1]]).flatten else none) = _
  rw [if_pos (by omega)]
  congr 1
  have e : ∀ k : Nat, (List.replicate k [PyData.tuple [.int 0, .int 1]]).flatten = rtL k fun _ => 0 := by
    intro k
    induction k with
    | zero => rfl
    | succ k ih =>
      rw [List.replicate_succ', List.flatten_append, ih]
      unfold rtL
      rw [List.range_succ, List.map_append]
      rfl
  exact e _
theorem rt_app {pre : List (Nat × Nat)} {h w : Nat} {W : Rat} (hn : lk pre h = none) : rt (pre ++ [(h, w)]) W = fun j => if j = h then (w : Rat) / W else rt pre W j := by
  have e : ∀ (pre : List (Nat × Nat)) (j : Nat), lk (pre ++ [(h, w)]) j = match lk pre j with | some v => some v | none => if h = j then some w else none := by
    intro pre j
    induction pre with
    | nil => rfl
    | cons p pre ih =>
      rw [List.cons_append]
      unfold lk
      by_cases hp : p.1 = j
      · simp [hp]
      · simp only [hp, if_false]; exact ih
  funext j
  unfold rt
  rw [e]
  by_cases hj : j = h
  · subst hj; rw [hn]; simp
  · rw [if_neg hj]
    cases lk pre j with
    | none => simp only; rw [if_neg (Ne.symm hj)]
    | some v => rfl
theorem dis_pre {β : Type} {pre post : List (Nat × β)} {x : Nat × β} {xs : List (Nat × β)} (d : Dis xs) (e : xs = pre ++ x :: post) : lk pre x.1 = none := by
  rw [lk_none]
  intro p hp
  subst e
  exact (List.pairwise_append.mp d).2.2 p hp x (by simp)
theorem frac_nat {w W : Nat} (hW : 0 < W) (hb : W < 2 ^ 24) : F_fraction [.int w, .int W] = .ok (fr ((w : Rat) / (W : Rat))) := by
  have h := fraction_ok (a := (w : Int)) hW (Nat.lt_of_lt_of_le hb (Nat.pow_le_pow_right (by decide) (by decide)))
  rw [Rat.mkRat_eq_div, Rat.intCast_natCast] at h
  exact h
theorem sum_int : ∀ ps : List (Nat × Nat), (ps.map fun p => (p.2 : Int)).sum = (wsum ps : Int)
  | [] => rfl
  | p :: ps => by rw [List.map_cons, List.sum_cons, sum_int ps, wsum_cons, Int.natCast_add]
theorem sumD_pairs (ps : List (Nat × Nat)) : sumD [.list (ps.map fun p => PyData.int (p.2 : Int))] = some (.int (wsum ps)) := by
  rw [sumD_map (fun p : Nat × Nat => (p.2 : Int)) ps, sum_int]
theorem fixed_pieces_ok {n : Nat} {s : List (Nat × Nat)} (hn : n ≤ 5) (h0 : s ≠ []) (k : POk n 999 s) : F_fixed_pieces [.int n, prs s] = .ok (.list [pcD n (some (wsum s : Rat), rt s (wsum s : Rat))]) := by
  have hw : ∀ p ∈ s, 0 < p.2 := fun p hp => (k.el p hp).2.1
  have hWn := wsum_pos hw h0
  have hlen := pok_len k
  have hWle : wsum s ≤ 4995 := by
    have a := wsum_le fun p hp => (k.el p hp).2.2
    have : 999 * s.length ≤ 999 * 5 := Nat.mul_le_mul_left _ (by omega)
    omega
  have hc : cL (gTu 2 (gsCons (gN 4) (gsCons (gN 5) gsNil))) bYes cE_fixed_pieces_1 [some (.d (.int n)), some (.d (prs s)), none, none, none, none] (s.map pr) none = .ok (s.map (fun p => PyData.int (p.2 : Int)), none) := by
    refine cL_map pr _ _ fun p hp => ⟨_, by simp; rfl, ?_⟩
    simp [cE_fixed_pieces_1]
  obtain ⟨ρ', h1, a, b, rfl⟩ := fL_pre (W := none) (g := gTu 2 (gsCons (gN 4) (gsCons (gN 5) gsNil))) (body := lB_fixed_pieces_2) pr
    (fun pre ρ => ∃ a b, ρ = [some (.d (.int n)), some (.d (prs s)), some (.d (.int (wsum s))), some (.own (rtL n (rt pre (wsum s : Rat)))), a, b]) s [some (.d (.int n)), some (.d (prs s)), some (.d (.int (wsum s))), some (.own (rtL n fun _ => 0)), none, none] ⟨none, none, rfl⟩ (by
      rintro pre x post ρ e ⟨a, b, rfl⟩
      have hx : x ∈ s := by rw [e]; simp
      have hxn := (k.el x hx).1
      refine ⟨_, [some (.d (.int n)), some (.d (prs s)), some (.d (.int (wsum s))), some (.own (rtL n (rt (pre ++ [x]) (wsum s : Rat)))), some (.d (.int x.1)), some (.d (.int x.2))], by simp; rfl, ?_, _, _, rfl⟩
      have hf := frac_nat (w := x.2) hWn (Nat.lt_of_le_of_lt hWle (by decide))
      have hs := set_rtL (n := n) (r := rt pre (wsum s : Rat)) (v := (x.2 : Rat) / (wsum s : Rat)) hxn
      rw [← rt_app (dis_pre k.dis e)] at hs
      simp only [lB_fixed_pieces_2]
      simp [hf, hs])
  unfold F_fixed_pieces
  simp only [B_fixed_pieces]
  simp [wipeOk, show s.length ≤ 100000 by omega, hc, sumD_pairs, mulL_zero hn, h1, pcD, lnD]
  rfl
end Sx

namespace Sx
open PySem PySem.Spec PyProof.Rows L2 Mx
/-! ### dicts as typed lists -/
def kvL (L : List (Nat × Rat)) : List (Int × Dt) := L.map fun p => ((p.1 : Int), fr p.2)
theorem valD_kvL (h : Nat) : ∀ L : List (Nat × Rat), valD (kvL L) (h : Int) = (lk L h).map fr
  | [] => rfl
  | (k, v) :: L => by
    have ih := valD_kvL h L
    unfold kvL valD at ih ⊢
    rw [List.map_cons]
    unfold lk
    by_cases hk : k = h
    · subst hk; simp
    · rw [if_neg hk, ← ih, List.find?_cons_of_neg (by simp; omega)]
theorem putD_new {acc : List (Int × Dt)} {k : Int} {d : Dt} (h : ∀ p ∈ acc, p.1 ≠ k) : putD acc k d = acc ++ [(k, d)] := by
  unfold putD
  rw [if_neg]
  intro z
  obtain ⟨p, hp, e⟩ := List.any_eq_true.mp z
  exact h p hp (of_decide_eq_true e)
theorem mergeD_dis : ∀ (L : List (Nat × Rat)) (acc : List (Nat × Rat)), Dis (acc ++ L) → mergeD (kvL acc) (kvL L) = kvL (acc ++ L)
  | [], acc, _ => by rw [List.append_nil]; rfl
  | p :: L, acc, d => by
    have e : mergeD (kvL acc) (kvL (p :: L)) = mergeD (putD (kvL acc) (p.1 : Int) (fr p.2)) (kvL L) := rfl
    rw [e, putD_new]
    · have : kvL acc ++ [((p.1 : Int), fr p.2)] = kvL (acc ++ [p]) := by unfold kvL; rw [List.map_append]; rfl
      rw [this, mergeD_dis L (acc ++ [p]) (by rw [List.append_assoc]; exact d), List.append_assoc]
      rfl
    · intro q hq
      obtain ⟨r, hr, rfl⟩ := List.mem_map.mp hq
      have := (List.pairwise_append.mp d).2.2 r hr p (by simp)
      simp only
      omega
theorem pairsD_map {α : Type} (f : α → Nat) (g : α → Rat) : ∀ xs : List α, pairsD (xs.map fun x => .tuple [.int (f x : Int), fr (g x)]) = some (xs.map fun x => ((f x : Int), fr (g x)))
  | [] => rfl
  | x :: xs => by
    rw [List.map_cons]
    show (pairsD (xs.map _)).map _ = _
    rw [pairsD_map f g xs]
    rfl
theorem dictOf_map {α : Type} {f : α → Nat} {g : α → Rat} {xs : List α} (d : Dis (xs.map fun x => (f x, g x))) : dictOf (.list (xs.map fun x => .tuple [.int (f x : Int), fr (g x)])) = some (kvL (xs.map fun x => (f x, g x))) := by
  show (pairsD _).map (mergeD []) = _
  rw [pairsD_map f g xs]
  show some (mergeD [] _) = _
  have e : (xs.map fun x => ((f x : Int), fr (g x))) = kvL (xs.map fun x => (f x, g x)) := by unfold kvL; rw [List.map_map]; rfl
  rw [e]
  have := mergeD_dis (xs.map fun x => (f x, g x)) [] d
  rw [List.nil_append] at this
  exact congrArg some this
@[simp] theorem shaped_fr {q : Rat} : SeqAt.shaped (fr q) = true := by rfl
theorem eqv_fr {a b : Rat} : PyData.eqv (fr a) (fr b) = decide (a = b) := by
  show ((a.num == b.num) && (((a.den : Int) == (b.den : Int)) && true)) = _
  rw [Bool.eq_iff_iff]
  simp only [Bool.and_true, Bool.and_eq_true, beq_iff_eq, decide_eq_true_eq]
  constructor
  · rintro ⟨h1, h2⟩; exact Rat.ext h1 (by omega)
  · intro h; subst h; exact ⟨rfl, rfl⟩
theorem neD_fr {a b : Rat} : neD (fr a) (fr b) = some (.bool (!decide (a = b))) := by
  unfold neD; rw [shaped_fr, shaped_fr, eqv_fr]; rfl
theorem fr0 : (PyData.tuple [.int 0, .int 1] : Dt) = fr 0 := rfl
theorem neD_fr0 {a : Rat} : neD (fr a) (.tuple [.int 0, .int 1]) = some (.bool (!decide (a = 0))) := by rw [fr0]; exact neD_fr
@[simp] theorem isD_none : isD .none .none = some (.bool true) := by rfl
@[simp] theorem isD_fr {q : Rat} : isD (fr q) .none = some (.bool false) := by rfl
@[simp] theorem isNotD_none : isNotD .none .none = some (.bool false) := by rfl
@[simp] theorem isNotD_fr {q : Rat} : isNotD (fr q) .none = some (.bool true) := by rfl
/-! ### the numbers -/
theorem Lev.bdL {n : Nat} {w c A : List (Nat × Nat)} {L : List (Nat × Rat)} {t : Rat} (k : (Rung.shares w c).Ok n) (v : Lev w c t A L) (hv : Lvl w c t) {h : Nat} {x : Rat} (e : lk L h = some x) : Bd 24 x := by
  obtain ⟨a, b, hb0, hb20, ha, ht⟩ := hv.ab k
  cases hw : lk w h with
  | none => rw [v.oL h hw] at e; cases e
  | some y =>
    have e1 := v.lL h y hw
    rw [e] at e1
    cases hc : lk c h with
    | none => rw [hc] at e1; cases e1
    | some z =>
      rw [hc] at e1
      simp only at e1
      have k1 := (k.2.1.el _ (lk_mem hw)).2.2
      have k2 := (k.2.2.1.el _ (lk_mem hc)).2.2
      simp only at k1 k2
      split at e1
      · cases e1
        have hbp : (0 : Rat) < (b : Rat) := Rat.natCast_pos.mpr hb0
        have e2 : (z : Rat) - (y : Rat) * t = (((z : Int) * b - (y : Int) * a : Int) : Rat) / (b : Rat) := by
          have : ((z : Rat) - (y : Rat) * t) * (b : Rat) = (((z : Int) * b - (y : Int) * a : Int) : Rat) := by
            rw [Rat.intCast_sub, Rat.intCast_mul, Rat.intCast_mul, Rat.intCast_natCast, Rat.intCast_natCast, Rat.intCast_natCast, Rat.intCast_natCast, ← ht]
            try grind
          rw [← this]
          exact (Rat.mul_div_cancel (by grind)).symm
        rw [e2]
        have h1 : z * b ≤ 999 * 20 := Nat.mul_le_mul k2 hb20
        have h2 : y * a ≤ 20 * 999 := Nat.mul_le_mul k1 ha
        refine bd_fracI hb0 ?_ (by omega)
        have i1 : (z : Int) * b = ((z * b : Nat) : Int) := by simp
        have i2 : (y : Int) * a = ((y * a : Nat) : Int) := by simp
        rw [i1, i2]
        omega
      · cases e1
theorem lenOf_app {L : List (Nat × Rat)} {W : Rat} {x : Nat × Nat} : ∀ (pre : List (Nat × Nat)) (o : Option Rat), lenOf L W (pre ++ [x]) o = lenOf L W [x] (lenOf L W pre o)
  | [], o => rfl
  | (h, w) :: pre, o => by
    rw [List.cons_append]
    exact lenOf_app pre _
def lenS (L : List (Nat × Rat)) (W : Rat) (x : Nat × Nat) (o : Option Rat) : Option Rat := match lk L x.1 with
  | none => o
  | some c => some (match o with
    | none => c / ((x.2 : Rat) / W)
    | some l => if c / ((x.2 : Rat) / W) < l then c / ((x.2 : Rat) / W) else l)
theorem lenOf_snoc {L : List (Nat × Rat)} {W : Rat} {x : Nat × Nat} (pre : List (Nat × Nat)) (o : Option Rat) : lenOf L W (pre ++ [x]) o = lenS L W x (lenOf L W pre o) := by
  rw [lenOf_app]
  cases x
  rfl
/-- the first part of a turn: rates and length -/
theorem share_loop {n : Nat} {A : List (Nat × Nat)} {L : List (Nat × Rat)} {x1 x2 x5 x12 x13 j9 j10 j11 : Option SV} (s : St A L) (hA : ∀ p ∈ A, p.1 < n ∧ p.2 ≤ 20) (h0 : A ≠ []) (hW : wsum A ≤ 100) (hb : ∀ h c, lk L h = some c → Bd 24 c) :
    ∃ a9 a10 a11, (∃ d9 d10, a9 = some (.d d9) ∧ a10 = some (.d d10)) ∧ fL (gTu 2 (gsCons (gN 9) (gsCons (gN 10) gsNil))) lB_share_pieces_4 (A.map pr) [some (.d (.int n)), x1, x2, some (.dk (kvL L)), some (.d (.list (A.map pr))), x5, some (.d (.int (wsum A))), some (.own (rtL n fun _ => 0)), some (.d .none), j9, j10, j11, x12, x13] none =
      .nx [some (.d (.int n)), x1, x2, some (.dk (kvL L)), some (.d (.list (A.map pr))), x5, some (.d (.int (wsum A))), some (.own (rtL n (rt A (wsum A : Rat)))), some (.d (lnD (lenOf L (wsum A : Rat) A none))), a9, a10, a11, x12, x13] none := by
  have hWn := wsum_pos s.wp h0
  have hWr := s.W h0
  have key := fL_pre (W := none) (g := gTu 2 (gsCons (gN 9) (gsCons (gN 10) gsNil))) (body := lB_share_pieces_4) pr
    (fun pre ρ => ∃ a9 a10 a11, (pre ≠ [] → ∃ d9 d10, a9 = some (.d d9) ∧ a10 = some (.d d10)) ∧ (∀ l, lenOf L (wsum A : Rat) pre none = some l → Bd 40 l) ∧ ρ = [some (.d (.int n)), x1, x2, some (.dk (kvL L)), some (.d (.list (A.map pr))), x5, some (.d (.int (wsum A))), some (.own (rtL n (rt pre (wsum A : Rat)))), some (.d (lnD (lenOf L (wsum A : Rat) pre none))), a9, a10, a11, x12, x13]) A
    [some (.d (.int n)), x1, x2, some (.dk (kvL L)), some (.d (.list (A.map pr))), x5, some (.d (.int (wsum A))), some (.own (rtL n fun _ => 0)), some (.d .none), j9, j10, j11, x12, x13] ⟨j9, j10, j11, fun z => absurd rfl z, fun l z => (by cases z), rfl⟩ (by
      rintro pre x post ρ e ⟨a9, a10, a11, hd, hbl, rfl⟩
      have hx : x ∈ A := by rw [e]; simp
      obtain ⟨hxn, hx20⟩ := hA x hx
      have hf := frac_nat (w := x.2) hWn (Nat.lt_of_le_of_lt hW (by decide))
      have hs := set_rtL (n := n) (r := rt pre (wsum A : Rat)) (v := (x.2 : Rat) / (wsum A : Rat)) hxn
      rw [← rt_app (dis_pre s.dA e)] at hs
      have hix := ix_rtL (n := n) (h := x.1) (r := rt (pre ++ [x]) (wsum A : Rat)) hxn
      have hrx : rt (pre ++ [x]) (wsum A : Rat) x.1 = (x.2 : Rat) / (wsum A : Rat) := by rw [rt_app (dis_pre s.dA e)]; simp
      have hrp := s.rp h0 hx
      have hrb : Bd 13 ((x.2 : Rat) / (wsum A : Rat)) := bd_frac hWn (by omega) (by omega)
      have hv := valD_kvL x.1 L
      rw [hrx] at hix
      refine ⟨_, [some (.d (.int n)), x1, x2, some (.dk (kvL L)), some (.d (.list (A.map pr))), x5, some (.d (.int (wsum A))), some (.own (rtL n (rt (pre ++ [x]) (wsum A : Rat)))), some (.d (lnD (lenOf L (wsum A : Rat) (pre ++ [x]) none))), some (.d (.int x.1)), some (.d (.int x.2)), match lk L x.1 with | none => a11 | some c => some (.d (fr (c / ((x.2 : Rat) / (wsum A : Rat))))), x12, x13], by simp; rfl, ?_, _, _, _, fun _ => ⟨_, _, rfl, rfl⟩, fun l hl => ?_, rfl⟩
      · rw [lenOf_snoc]
        unfold lenS
        cases hc : lk L x.1 with
        | none =>
          rw [hc] at hv
          simp only [lB_share_pieces_4]
          simp [hf, hs, hv]
        | some c =>
          rw [hc] at hv
          have hbc := hb _ _ hc
          have hq := quotient_ok (hbc.mono (by decide)) (hrb.mono (by decide)) hrp
          simp only [lB_share_pieces_4]
          cases ho : lenOf L (wsum A : Rat) pre none with
          | none =>
            simp [hf, hs, hv, hix, hq, lnD]
          | some l =>
            have hls := lesser_ok (a := l) (b := c / ((x.2 : Rat) / (wsum A : Rat))) ((hbl l ho).mono (by decide)) ((hbc.div hrb (by decide)).mono (by decide))
            simp [hf, hs, hv, hix, hq, lnD, hls]
      · rw [lenOf_snoc] at hl
        unfold lenS at hl
        cases hc : lk L x.1 with
        | none => simp only [hc] at hl; exact hbl l hl
        | some c =>
          have hbc := hb _ _ hc
          have hbd := (hbc.div hrb (by decide)).mono (show 24 + 13 ≤ 40 by decide)
          simp only [hc] at hl
          have hl : (some (match lenOf L (wsum A : Rat) pre none with | none => c / ((x.2 : Rat) / (wsum A : Rat)) | some l => if c / ((x.2 : Rat) / (wsum A : Rat)) < l then c / ((x.2 : Rat) / (wsum A : Rat)) else l)) = some l := hl
          cases ho : lenOf L (wsum A : Rat) pre none with
          | none => rw [ho] at hl; cases hl; exact hbd
          | some l' =>
            rw [ho] at hl
            simp only at hl
            split at hl <;> (cases hl)
            · exact hbd
            · exact hbl _ ho)
  obtain ⟨ρ', h1, a9, a10, a11, h2, _, rfl⟩ := key
  exact ⟨a9, a10, a11, h2 h0, h1⟩
end Sx

namespace Sx
open PySem PySem.Spec PyProof.Rows L2 Mx
def keyB (j : Option SV) : Prop := j = none ∨ ∃ d, j = some (.d d)
theorem wipe2 {ρ : Sl} {i i' : Nat} {j j' : Option SV} (h : ρ[i]? = some j) (h' : ρ[i']? = some j') (k : keyB j) (k' : keyB j') : wipeOk ρ [i, i'] = true := by
  unfold wipeOk
  rw [List.all_cons, List.all_cons, h, h']
  rcases k with rfl | ⟨d, rfl⟩ <;> rcases k' with rfl | ⟨d', rfl⟩ <;> rfl
theorem keepA_map (L : List (Nat × Rat)) (A : List (Nat × Nat)) : keepA L A = A.filter fun p => (!(lk L p.1).isSome || (match (lk L p.1) with | none => false | some c => !decide (c = 0))) := by
  unfold keepA
  refine List.filter_congr fun p _ => ?_
  cases lk L p.1 with
  | none => rfl
  | some c => simp
theorem share_c3 {A : List (Nat × Nat)} {x0 x1 x2 x3 x4 x5 x6 x7 x8 x11 x12 x13 : Option SV} : cL (gTu 2 (gsCons (gN 9) (gsCons (gN 10) gsNil))) bYes cE_share_pieces_3 [x0, x1, x2, x3, x4, x5, x6, x7, x8, none, none, x11, x12, x13] (A.map pr) none = .ok (A.map (fun p => PyData.int (p.2 : Int)), none) := by
  refine cL_map pr _ _ fun p hp => ⟨_, by simp; rfl, ?_⟩
  simp [cE_share_pieces_3]
theorem share_c5 {n : Nat} {L : List (Nat × Rat)} {l : Rat} {r : Nat → Rat} {x1 x2 x4 x5 x6 x10 x11 x12 x13 : Option SV} (d : Dis L) (hk : ∀ p ∈ L, p.1 < n ∧ Bd 24 p.2 ∧ Bd 13 (r p.1)) (hl : Bd 24 l) :
    cL (gN 9) bYes cE_share_pieces_5 [some (.d (.int n)), x1, x2, some (.fd (kvL L)), x4, x5, x6, some (.own (rtL n r)), some (.d (fr l)), none, x10, x11, x12, x13] (L.map fun p => PyData.int (p.1 : Int)) none = .ok ((lowL L r l).map (fun p => PyData.tuple [.int (p.1 : Int), fr p.2]), none) := by
  have e : (lowL L r l).map (fun p => PyData.tuple [.int (p.1 : Int), fr p.2]) = L.map fun p => PyData.tuple [.int (p.1 : Int), fr (p.2 - l * r p.1)] := by unfold lowL; rw [List.map_map]; rfl
  rw [e]
  refine cL_map (fun p : Nat × Rat => PyData.int (p.1 : Int)) _ _ fun p hp => ⟨_, by simp; rfl, ?_⟩
  obtain ⟨h1, h2, h3⟩ := hk p hp
  have hv := valD_kvL p.1 L
  rw [mem_lk d hp] at hv
  have hix := ix_rtL (n := n) (h := p.1) (r := r) h1
  have hp1 := product_ok (a := l) (b := r p.1) (hl.mono (by decide)) (h3.mono (by decide))
  have hp2 := minus_ok (a := p.2) (b := l * r p.1) (h2.mono (by decide)) ((hl.mul h3).mono (by decide))
  simp [cE_share_pieces_5, hv, hix, hp1, hp2]
theorem share_c6 {A : List (Nat × Nat)} {L : List (Nat × Rat)} {x0 x1 x2 x4 x5 x6 x7 x8 x9 x10 x11 x12 : Option SV} :
    cL (gN 13) cC_share_pieces_6 cE_share_pieces_6 [x0, x1, x2, some (.dk (kvL L)), x4, x5, x6, x7, x8, x9, x10, x11, x12, none] (A.map pr) none = .ok ((keepA L A).map pr, none) := by
  unfold keepA
  refine cL_ty pr _ _ A fun p hp => ⟨_, by simp; rfl, ?_, fun _ => by simp [cE_share_pieces_6]⟩
  have hv := valD_kvL p.1 L
  cases hc : lk L p.1 with
  | none => rw [hc] at hv; simp [cC_share_pieces_6, hv]
  | some c =>
    rw [hc] at hv
    simp [cC_share_pieces_6, hv, neD_fr0]
theorem share_c7 {L : List (Nat × Rat)} {x0 x1 x2 x4 x5 x6 x7 x8 x10 x11 x12 x13 : Option SV} (d : Dis L) :
    cL (gN 9) cC_share_pieces_7 cE_share_pieces_7 [x0, x1, x2, some (.fd (kvL L)), x4, x5, x6, x7, x8, none, x10, x11, x12, x13] (L.map fun p => PyData.int (p.1 : Int)) none = .ok ((keepL L).map (fun p => PyData.tuple [.int (p.1 : Int), fr p.2]), none) := by
  unfold keepL
  refine cL_ty (fun p : Nat × Rat => PyData.int (p.1 : Int)) _ _ L fun p hp => ⟨_, by simp; rfl, ?_, fun _ => ?_⟩
  · have hv := valD_kvL p.1 L
    rw [mem_lk d hp] at hv
    simp [cC_share_pieces_7, hv, neD_fr0]
  · have hv := valD_kvL p.1 L
    rw [mem_lk d hp] at hv
    simp [cE_share_pieces_7, hv]
theorem kvL_keys {L : List (Nat × Rat)} : (kvL L).map (fun kv => PyData.int kv.1) = L.map fun p => PyData.int (p.1 : Int) := by unfold kvL; rw [List.map_map]; rfl
theorem dict_L {L : List (Nat × Rat)} (d : Dis L) : dictOf (.list (L.map fun p => .tuple [.int (p.1 : Int), fr p.2])) = some (kvL L) := by
  have := dictOf_map (f := fun p : Nat × Rat => p.1) (g := fun p : Nat × Rat => p.2) (xs := L) (by simpa using d)
  simpa using this
theorem kvL_len {L : List (Nat × Rat)} : (kvL L).length = L.length := by unfold kvL; rw [List.length_map]
theorem lnD_some {l : Rat} : lnD (some l) = fr l := rfl
/-- a whole turn of the loop -/
theorem share_turn {n : Nat} {A : List (Nat × Nat)} {L : List (Nat × Rat)} {x1 x2 j6 j7 j8 j9 j10 j11 x12 : Option SV} {fs : List Dt} (hn : n ≤ 5) (s : St A L) (hA : ∀ p ∈ A, p.1 < n ∧ p.2 ≤ 20) (h0 : A ≠ []) (hW : wsum A ≤ 100) (hb : ∀ h c, lk L h = some c → Bd 24 c) (hbl : ∀ l, lenOf L (wsum A : Rat) A none = some l → Bd 24 l)
    (k9 : keyB j9) (k10 : keyB j10) (hfs : fs.length ≤ 1000) (hlA : A.length ≤ 1000) (hlL : L.length ≤ 1000) :
    ∃ a9 a10 a11, keyB a9 ∧ keyB a10 ∧ wB_share_pieces_2 [some (.d (.int n)), x1, x2, some (.dk (kvL L)), some (.d (.list (A.map pr))), some (.own fs), j6, j7, j8, j9, j10, j11, x12, none] none =
      match lenOf L (wsum A : Rat) A none with
      | none => .rt (.d (.list (fs ++ [pcD n (none, rt A (wsum A : Rat))]))) none
      | some l => .nx [some (.d (.int n)), x1, x2, some (.dk (kvL (keepL (lowL L (rt A (wsum A : Rat)) l)))), some (.d (.list ((keepA (lowL L (rt A (wsum A : Rat)) l) A).map pr))), some (.own (fs ++ [pcD n (some l, rt A (wsum A : Rat))])), some (.d (.int (wsum A))), some (.own (rtL n (rt A (wsum A : Rat)))), some (.d (fr l)), a9, a10, a11, x12, none] none := by
  obtain ⟨a9, a10, a11, ⟨d9, d10, rfl, rfl⟩, hloop⟩ := share_loop (x1 := x1) (x2 := x2) (x5 := some (.own fs)) (x12 := x12) (x13 := none) (j9 := j9) (j10 := j10) (j11 := j11) s hA h0 hW hb
  refine ⟨_, _, a11, .inr ⟨d9, rfl⟩, .inr ⟨d10, rfl⟩, ?_⟩
  have hWn := wsum_pos s.wp h0
  have w1 := wipe2 (ρ := [some (.d (.int n)), x1, x2, some (.dk (kvL L)), some (.d (.list (A.map pr))), some (.own fs), j6, j7, j8, j9, j10, j11, x12, none]) (i := 9) (i' := 10) rfl rfl k9 k10
  have hc3 := share_c3 (A := A) (x0 := some (.d (.int n))) (x1 := x1) (x2 := x2) (x3 := some (.dk (kvL L))) (x4 := some (.d (.list (A.map pr)))) (x5 := some (.own fs)) (x6 := j6) (x7 := j7) (x8 := j8) (x11 := j11) (x12 := x12) (x13 := none)
  cases hl : lenOf L (wsum A : Rat) A none with
  | none =>
    rw [hl] at hloop
    simp only [wB_share_pieces_2]
    simp [w1, show A.length ≤ 100000 by omega, hc3, sumD_pairs, mulL_zero hn, hloop, lnD, pcD, show fs.length < 100000 by omega]
  | some l =>
    rw [hl] at hloop
    have hrb : ∀ h, Bd 13 (rt A (wsum A : Rat) h) := fun h => by
      unfold rt
      cases hq : lk A h with
      | none => exact (show Bd 13 (0 : Rat) from ⟨by decide, by decide⟩)
      | some x =>
        have := (hA _ (lk_mem hq)).2
        exact bd_frac hWn (by omega) (by omega)
    have hkL : ∀ p ∈ L, p.1 < n ∧ Bd 24 p.2 ∧ Bd 13 (rt A (wsum A : Rat) p.1) := fun p hp => by
      obtain ⟨q, hq, e⟩ := s.sub p hp
      exact ⟨by rw [← e]; exact (hA q hq).1, hb _ _ (mem_lk s.dL hp), hrb _⟩
    have dlow : Dis (lowL L (rt A (wsum A : Rat)) l) := dis_map (fun k c => c - l * rt A (wsum A : Rat) k) s.dL
    have hc5 := share_c5 (n := n) (L := L) (l := l) (r := rt A (wsum A : Rat)) (x1 := x1) (x2 := x2) (x4 := some (.d (.list (A.map pr)))) (x5 := some (.own (fs ++ [pcD n (some l, rt A (wsum A : Rat))]))) (x6 := some (.d (.int (wsum A)))) (x10 := some (.d d10)) (x11 := a11) (x12 := x12) (x13 := none) s.dL hkL (hbl l hl)
    have hd5 := dict_L dlow
    have hc6 := share_c6 (A := A) (L := lowL L (rt A (wsum A : Rat)) l) (x0 := some (.d (.int n))) (x1 := x1) (x2 := x2) (x4 := some (.d (.list (A.map pr)))) (x5 := some (.own (fs ++ [pcD n (some l, rt A (wsum A : Rat))]))) (x6 := some (.d (.int (wsum A)))) (x7 := some (.own (rtL n (rt A (wsum A : Rat))))) (x8 := some (.d (fr l))) (x9 := some (.d d9)) (x10 := some (.d d10)) (x11 := a11) (x12 := x12)
    have hc7 := share_c7 (L := lowL L (rt A (wsum A : Rat)) l) (x0 := some (.d (.int n))) (x1 := x1) (x2 := x2) (x4 := some (.d (.list ((keepA (lowL L (rt A (wsum A : Rat)) l) A).map pr)))) (x5 := some (.own (fs ++ [pcD n (some l, rt A (wsum A : Rat))]))) (x6 := some (.d (.int (wsum A)))) (x7 := some (.own (rtL n (rt A (wsum A : Rat))))) (x8 := some (.d (fr l))) (x10 := some (.d d10)) (x11 := a11) (x12 := x12) (x13 := none) dlow
    have hd7 := dict_L (List.Pairwise.filter (fun p : Nat × Rat => decide (p.2 ≠ 0)) dlow)
    have hll : (lowL L (rt A (wsum A : Rat)) l).length ≤ 100000 := by unfold lowL; rw [List.length_map]; omega
    have hla : ∀ A' : List (Nat × Nat), A'.length ≤ A.length → A'.length ≤ 100000 := fun A' h => by omega
    have e5 : (PyData.tuple [fr l, .tuple (rtL n (rt A (wsum A : Rat)))]) = pcD n (some l, rt A (wsum A : Rat)) := rfl
    simp only [wB_share_pieces_2]
    simp [w1, show A.length ≤ 100000 by omega, hc3, sumD_pairs, mulL_zero hn, hloop, show fs.length < 100000 by omega, lnD_some, e5, kvL_keys, kvL_len, show L.length ≤ 100000 by omega]
    simp [wipeOk, hc5, hd5, hc6, kvL_keys, kvL_len, hll, hc7, show A.length ≤ 100000 by omega]
    have e7 : keepL (lowL L (rt A (wsum A : Rat)) l) = (lowL L (rt A (wsum A : Rat)) l).filter fun p => decide (p.2 ≠ 0) := rfl
    rw [← e7] at hd7
    simp [hd7]
end Sx

namespace Sx
open PySem PySem.Spec PyProof.Rows L2 Mx
/-! data that may be compared -/
mutual
def flt : Nat → Dt → Bool
  | _, .none => true
  | _, .bool _ => true
  | _, .int _ => true
  | _, .str _ => false
  | k, .list ds => match k with
    | 0 => false
    | k + 1 => flts k ds
  | k, .tuple ds => match k with
    | 0 => false
    | k + 1 => flts k ds
  | _, .dict _ => false
def flts : Nat → List Dt → Bool
  | _, [] => true
  | k, d :: ds => flt k d && flts k ds
end
mutual
theorem flt_ok : ∀ (d : Dt) (k : Nat), flt k d = true → d.canLay0 = true ∧ d.depth ≤ k
  | .none, k, _ => ⟨rfl, Nat.zero_le _⟩
  | .bool _, k, _ => ⟨rfl, Nat.zero_le _⟩
  | .int _, k, _ => ⟨rfl, Nat.zero_le _⟩
  | .str _, k, h => by unfold flt at h; cases h
  | .list ds, 0, h => by unfold flt at h; cases h
  | .list ds, k + 1, h => by
    unfold flt at h
    have := flts_ok ds k h
    exact ⟨this.1, Nat.succ_le_succ this.2⟩
  | .tuple ds, 0, h => by unfold flt at h; cases h
  | .tuple ds, k + 1, h => by
    unfold flt at h
    have := flts_ok ds k h
    exact ⟨this.1, Nat.succ_le_succ this.2⟩
  | .dict _, k, h => by unfold flt at h; cases h
theorem flts_ok : ∀ (ds : List Dt) (k : Nat), flts k ds = true → PyData.canLayAll0 ds = true ∧ PyData.depthAll ds ≤ k
  | [], k, _ => ⟨rfl, Nat.zero_le _⟩
  | d :: ds, k, h => by
    unfold flts at h
    rw [Bool.and_eq_true] at h
    have h1 := flt_ok d k h.1
    have h2 := flts_ok ds k h.2
    exact ⟨by show (PyData.canLay0 d && PyData.canLayAll0 ds) = true; rw [h1.1, h2.1]; rfl, Nat.max_le.mpr ⟨h1.2, h2.2⟩⟩
end
theorem shaped_flt {d : Dt} {k : Nat} (h : flt k d = true) (hk : k ≤ 64) : SeqAt.shaped d = true := by
  obtain ⟨h1, h2⟩ := flt_ok d k h
  unfold SeqAt.shaped
  rw [h1, decide_eq_true (by omega)]
  rfl
mutual
theorem eqv_refl : ∀ (d : Dt) (k : Nat), flt k d = true → PyData.eqv d d = true
  | .none, k, _ => rfl
  | .bool b, k, _ => by show (b == b) = true; simp
  | .int i, k, _ => by show (i == i) = true; simp
  | .str _, k, h => by unfold flt at h; cases h
  | .list ds, 0, h => by unfold flt at h; cases h
  | .list ds, k + 1, h => by unfold flt at h; exact eqvAll_refl ds k h
  | .tuple ds, 0, h => by unfold flt at h; cases h
  | .tuple ds, k + 1, h => by unfold flt at h; exact eqvAll_refl ds k h
  | .dict _, k, h => by unfold flt at h; cases h
theorem eqvAll_refl : ∀ (ds : List Dt) (k : Nat), flts k ds = true → PyData.eqvAll ds ds = true
  | [], k, _ => rfl
  | d :: ds, k, h => by
    unfold flts at h
    rw [Bool.and_eq_true] at h
    show (PyData.eqv d d && PyData.eqvAll ds ds) = true
    rw [eqv_refl d k h.1, eqvAll_refl ds k h.2]; rfl
end
theorem flts_map {α : Type} {k : Nat} {f : α → Dt} : ∀ {xs : List α}, (∀ x ∈ xs, flt k (f x) = true) → flts k (xs.map f) = true
  | [], _ => rfl
  | x :: xs, h => by
    rw [List.map_cons]
    show (flt k (f x) && flts k (xs.map f)) = true
    rw [h x (by simp), flts_map fun y hy => h y (List.mem_cons_of_mem _ hy)]; rfl
theorem flt_pr {k : Nat} {p : Nat × Nat} : flt (k + 1) (pr p) = true := rfl
theorem neD_nil {ds : List Dt} {k : Nat} (h : flts k ds = true) (hk : k ≤ 60) : neD (.list ds) (.list []) = some (.bool (!ds.isEmpty)) := by
  unfold neD
  rw [shaped_flt (k := k + 1) (show flt (k + 1) (.list ds) = true from h) (by omega), show SeqAt.shaped (.list []) = true from rfl]
  cases ds <;> rfl
theorem eqD_nil {ds : List Dt} {k : Nat} (h : flts k ds = true) (hk : k ≤ 60) : eqD (.list ds) (.list []) = some (.bool ds.isEmpty) := by
  unfold eqD
  rw [shaped_flt (k := k + 1) (show flt (k + 1) (.list ds) = true from h) (by omega), show SeqAt.shaped (.list []) = true from rfl]
  cases ds <;> rfl
theorem spGo_fuel : ∀ (m m' : Nat) (A : List (Nat × Nat)) (L : List (Nat × Rat)), St A L → A.length < m → A.length < m' → spGo m A L = spGo m' A L
  | 0, _, A, L, _, h, _ => by omega
  | _, 0, A, L, _, _, h => by omega
  | m + 1, m' + 1, A, L, s, h, h' => by
    unfold spGo
    by_cases hA : A = []
    · rw [if_pos hA, if_pos hA]
    · rw [if_neg hA, if_neg hA]
      cases hl : lenOf L (wsum A : Rat) A none with
      | none => rfl
      | some l =>
        have nn := Ln.of s hA hl
        have := keepA_short s nn
        simp only
        rw [spGo_fuel m m' _ _ (s.next nn) (by omega) (by omega)]
theorem Lev.bdl {n : Nat} {w c A : List (Nat × Nat)} {L : List (Nat × Rat)} {t l : Rat} (k : (Rung.shares w c).Ok n) (s : St A L) (hA : A ≠ []) (v : Lev w c t A L) (hv : Lvl w c t) (nn : Ln A L l) (hW : wsum A ≤ 100) : Bd 24 l := by
  obtain ⟨v2, hv2, _⟩ := v.next s nn hA (fun p hp => (k.2.1.el p hp).2.1)
  have hWr := s.W hA
  obtain ⟨a, b, hb0, hb20, ha, ht⟩ := hv.ab k
  obtain ⟨a', b', hb0', hb20', ha', ht'⟩ := hv2.ab k
  have e : l = (((wsum A : Int) * ((a' : Int) * b - (a : Int) * b') : Int) : Rat) / ((b * b' : Nat) : Rat) := by
    have hbp : (0 : Rat) < (b : Rat) := Rat.natCast_pos.mpr hb0
    have hbp' : (0 : Rat) < (b' : Rat) := Rat.natCast_pos.mpr hb0'
    have hlw : l = (wsum A : Rat) * (t + l / (wsum A : Rat) - t) := by
      rw [show t + l / (wsum A : Rat) - t = l / (wsum A : Rat) by grind, Rat.mul_comm]
      exact (Rat.div_mul_cancel (by grind)).symm
    generalize t + l / (wsum A : Rat) = t2 at hlw ht'
    have : l * ((b * b' : Nat) : Rat) = (((wsum A : Int) * ((a' : Int) * b - (a : Int) * b') : Int) : Rat) := by
      rw [Rat.intCast_mul, Rat.intCast_sub, Rat.intCast_mul, Rat.intCast_mul, Rat.natCast_mul]
      rw [Rat.intCast_natCast, Rat.intCast_natCast, Rat.intCast_natCast, Rat.intCast_natCast, Rat.intCast_natCast, ← ht, ← ht', hlw]
      grind
    rw [← this]
    exact (Rat.mul_div_cancel (by have := Rat.mul_pos hbp hbp'; rw [Rat.natCast_mul]; grind)).symm
  rw [e]
  have hbb : b * b' ≤ 20 * 20 := Nat.mul_le_mul hb20 hb20'
  have hab1 : a' * b ≤ 999 * 20 := Nat.mul_le_mul ha' hb20
  have hab2 : a * b' ≤ 999 * 20 := Nat.mul_le_mul ha hb20'
  refine bd_fracI (Nat.mul_pos hb0 hb0') ?_ (by omega)
  rw [Int.natAbs_mul]
  have h1 : ((a' : Int) * b - (a : Int) * b').natAbs ≤ 19980 := by
    have e1 : (a' : Int) * b = ((a' * b : Nat) : Int) := by simp
    have e2 : (a : Int) * b' = ((a * b' : Nat) : Int) := by simp
    rw [e1, e2]; omega
  have h2 : ((wsum A : Nat) : Int).natAbs ≤ 100 := by omega
  exact Nat.lt_of_le_of_lt (Nat.mul_le_mul h2 h1) (by decide)
theorem share_while {n : Nat} {w c : List (Nat × Nat)} {x1 x2 x12 : Option SV} (k : (Rung.shares w c).Ok n) (hn : n ≤ 5) : ∀ (m : Nat) (A : List (Nat × Nat)) (L : List (Nat × Rat)) (t : Rat) (fs : List Dt) (j6 j7 j8 j9 j10 j11 : Option SV), St A L → Lev w c t A L → Lvl w c t → (∀ p ∈ A, p ∈ w) → A.length < m → L.length ≤ 1000 → fs.length + m ≤ 100 → keyB j9 → keyB j10 →
    (wL wC_share_pieces_2 wB_share_pieces_2 m [some (.d (.int n)), x1, x2, some (.dk (kvL L)), some (.d (.list (A.map pr))), some (.own fs), j6, j7, j8, j9, j10, j11, x12, none] none = .rt (.d (.list (fs ++ (spGo m A L).map (pcD n)))) none) ∨
    ∃ y3 y4 y6 y7 y8 y9 y10 y11, wL wC_share_pieces_2 wB_share_pieces_2 m [some (.d (.int n)), x1, x2, some (.dk (kvL L)), some (.d (.list (A.map pr))), some (.own fs), j6, j7, j8, j9, j10, j11, x12, none] none = .nx [some (.d (.int n)), x1, x2, y3, y4, some (.own (fs ++ (spGo m A L).map (pcD n))), y6, y7, y8, y9, y10, y11, x12, none] none
  | 0, A, L, t, fs, j6, j7, j8, j9, j10, j11, s, v, hv, hsub, hm, _, _, _, _ => by omega
  | m + 1, A, L, t, fs, j6, j7, j8, j9, j10, j11, s, v, hv, hsub, hm, hlL, hfs, k9, k10 => by
    have hAw : ∀ p ∈ A, p.2 ≤ 20 := fun p hp => (k.2.1.el p (hsub p hp)).2.2
    have hAlen : A.length ≤ 5 := by
      have := nodup_le (l := A.map (·.1)) (m := List.range n) (by
        unfold List.Nodup
        rw [List.pairwise_map]
        exact s.dA) fun a ha => by
          obtain ⟨p, hp, rfl⟩ := List.mem_map.mp ha
          exact List.mem_range.mpr (k.2.1.el p (hsub p hp)).1
      rw [List.length_map, List.length_range] at this
      omega
    have hWle : wsum A ≤ 100 := by
      have := wsum_le hAw
      have : 20 * A.length ≤ 20 * 5 := Nat.mul_le_mul_left _ hAlen
      omega
    have hcond : wC_share_pieces_2 [some (.d (.int n)), x1, x2, some (.dk (kvL L)), some (.d (.list (A.map pr))), some (.own fs), j6, j7, j8, j9, j10, j11, x12, none] none = .ok (!(A.map pr).isEmpty, none) := by
      have := neD_nil (ds := A.map pr) (k := 1) (flts_map fun p _ => flt_pr) (by decide)
      simp only [wC_share_pieces_2]
      simp only [bOf_s, eBin_s, eVar_s, eFrz_s, lLst_s, aNil_s]
      simp [this]
    by_cases hA : A = []
    · refine .inr ⟨some (.dk (kvL L)), some (.d (.list (A.map pr))), j6, j7, j8, j9, j10, j11, ?_⟩
      subst hA
      unfold wL
      rw [hcond]
      simp [spGo]
    · obtain ⟨a9, a10, a11, q9, q10, ht⟩ := share_turn (x1 := x1) (x2 := x2) (j6 := j6) (j7 := j7) (j8 := j8) (j11 := j11) (x12 := x12) (fs := fs) hn s (fun p hp => ⟨(k.2.1.el p (hsub p hp)).1, hAw p hp⟩) hA hWle (fun h x e => Lev.bdL k v hv e) (fun l hl => Lev.bdl k s hA v hv (Ln.of s hA hl) hWle) k9 k10 (by omega) (by omega) hlL
      have hne : (A.map pr).isEmpty = false := by cases A with
        | nil => exact absurd rfl hA
        | cons _ _ => rfl
      unfold wL
      rw [hcond, hne]
      simp only [rOut_ok, Bool.not_false, if_true]
      rw [ht]
      unfold spGo
      rw [if_neg hA]
      cases hl : lenOf L (wsum A : Rat) A none with
      | none => left; rfl
      | some l =>
        have nn := Ln.of s hA hl
        obtain ⟨v2, hv2, _⟩ := v.next s nn hA (fun p hp => (k.2.1.el p hp).2.1)
        have hsh := keepA_short s nn
        have hll : (keepL (lowL L (rt A (wsum A : Rat)) l)).length ≤ 1000 := by
          have h1 := List.length_filter_le (fun p : Nat × Rat => decide (p.2 ≠ 0)) (lowL L (rt A (wsum A : Rat)) l)
          have h2 : (lowL L (rt A (wsum A : Rat)) l).length = L.length := by unfold lowL; rw [List.length_map]
          unfold keepL
          omega
        have ih := share_while (x1 := x1) (x2 := x2) (x12 := x12) k hn m _ _ _ (fs ++ [pcD n (some l, rt A (wsum A : Rat))]) (some (.d (.int (wsum A)))) (some (.own (rtL n (rt A (wsum A : Rat))))) (some (.d (fr l))) a9 a10 a11 (s.next nn) v2 hv2 (fun p hp => hsub p (List.mem_filter.mp hp).1) (by omega) hll (by simp; omega) q9 q10
        simp only [List.append_assoc, List.singleton_append] at ih
        simp only [List.map_cons]
        exact ih
theorem share_pieces_ok {n : Nat} {w c : List (Nat × Nat)} (k : (Rung.shares w c).Ok n) (hn : n ≤ 5) : F_share_pieces [.int n, prs w, prs c] = .ok (.list ((pcs (.shares w c)).map (pcD n))) := by
  have hlc := pok_len k.2.2.1
  have hlw := pok_len k.2.1
  have hc1 : cL (gTu 2 (gsCons (gN 9) (gsCons (gN 12) gsNil))) bYes cE_share_pieces_1 [some (.d (.int n)), some (.d (prs w)), some (.d (prs c)), none, none, none, none, none, none, none, none, none, none, none] (c.map pr) none = .ok (c.map (fun p => PyData.tuple [.int (p.1 : Int), fr ((p.2 : Nat) : Rat)]), none) := by
    refine cL_map pr _ _ fun p hp => ⟨_, by simp; rfl, ?_⟩
    simp [cE_share_pieces_1]
    rfl
  have hd : dictOf (.list (c.map (fun p => PyData.tuple [.int (p.1 : Int), fr ((p.2 : Nat) : Rat)]))) = some (kvL (ratC c)) := dictOf_map (f := fun p : Nat × Nat => p.1) (g := fun p : Nat × Nat => ((p.2 : Nat) : Rat)) (xs := c) (dis_map (β := Nat) (fun (_ : Nat) (c : Nat) => (c : Rat)) k.2.2.1.dis)
  have hw := share_while (x1 := some (.d (prs w))) (x2 := some (.d (prs c))) (x12 := none) k hn 7 w (ratC c) 0 [] none none none none none none (St.of k) (Lev.start k) (.inl rfl) (fun _ h => h) (by omega) (by unfold ratC; rw [List.length_map]; omega) (by simp) (.inl rfl) (.inl rfl)
  have hfu : spGo 7 w (ratC c) = pcs (.shares w c) := spGo_fuel 7 (w.length + 1) w (ratC c) (St.of k) (by omega) (by omega)
  rw [hfu] at hw
  unfold F_share_pieces
  simp only [B_share_pieces]
  simp only [List.nil_append] at hw
  have hsw : ∀ ρ W, sWhile (fun _ => 7) wC_share_pieces_2 wB_share_pieces_2 ρ W = wL wC_share_pieces_2 wB_share_pieces_2 7 ρ W := fun _ _ => rfl
  rcases hw with hw | ⟨y3, y4, y6, y7, y8, y9, y10, y11, hw⟩
  · simp [hc1, hd, wipeOk, show c.length ≤ 100000 by omega, hsw, hw]
  · simp [hc1, hd, wipeOk, show c.length ≤ 100000 by omega, hsw, hw]
theorem rung_pieces_ok {n : Nat} {r : Rung} (k : r.Ok n) (hn : n ≤ 5) : F_rung_pieces [.int n, rd r] = .ok (.list ((pcs r).map (pcD n))) := by
  unfold F_rung_pieces
  simp only [B_rung_pieces]
  cases r with
  | fixed s =>
    have h := fixed_pieces_ok hn k.1 k.2
    simp [rd, h, pcs]
  | shares w c =>
    have h := share_pieces_ok k hn
    simp [rd, h]
end Sx

namespace Sx
open PySem PySem.Spec PyProof.Rows L2 Mx
def npD (n : Nat) (p : Nat × Pc) : Dt := .tuple [.int (p.1 : Int), lnD p.2.1, .tuple (rtL n p.2.2)]
def npcs : Nat → List Rung → List (Nat × Pc)
  | _, [] => []
  | i, r :: rs => (pcs r).map (fun pc => (i, pc)) ++ (if r.endless = true then [] else npcs (i + 1) rs)
theorem npcs_snd : ∀ (i : Nat) (rs : List Rung), (npcs i rs).map (·.2) = lpcs rs
  | _, [] => rfl
  | i, r :: rs => by
    unfold npcs lpcs
    rw [List.map_append, List.map_map]
    have e : (fun (x : Nat × Pc) => x.2) ∘ (fun pc : Pc => (i, pc)) = id := rfl
    rw [e, List.map_id]
    congr 1
    split
    · rfl
    · exact npcs_snd (i + 1) rs
@[simp] theorem gTu_pcD {n : Nat} {pc : Pc} {gs : SGs} {ρ : Sl} : gTu 2 gs (pcD n pc) ρ = gs [lnD pc.1, .tuple (rtL n pc.2)] ρ := by rfl
@[simp] theorem gTu_npD {n : Nat} {p : Nat × Pc} {gs : SGs} {ρ : Sl} : gTu 3 gs (npD n p) ρ = gs [.int (p.1 : Int), lnD p.2.1, .tuple (rtL n p.2.2)] ρ := by rfl
theorem spGo_len : ∀ (m : Nat) (A : List (Nat × Nat)) (L : List (Nat × Rat)), (spGo m A L).length ≤ m
  | 0, _, _ => Nat.zero_le _
  | m + 1, A, L => by
    unfold spGo
    split
    · exact Nat.zero_le _
    · split
      · simp
      · rw [List.length_cons]
        exact Nat.succ_le_succ (spGo_len m _ _)
theorem pcs_len {n : Nat} {r : Rung} (h : r.Ok n) (hn : n ≤ 5) : (pcs r).length ≤ 10 := by
  cases r with
  | fixed s => simp [pcs]
  | shares w c =>
    have := pok_len h.2.1
    have := spGo_len (w.length + 1) w (ratC c)
    show (spGo (w.length + 1) w (ratC c)).length ≤ 10
    omega
theorem pieces_comp {n i : Nat} {r : Rung} {x0 x1 x3 : Option SV} : cL (gTu 2 (gsCons (gN 4) (gsCons (gN 5) gsNil))) bYes cE_pieces_of_2 [x0, x1, some (.d (.int (i : Int))), x3, none, none] ((pcs r).map (pcD n)) none = .ok ((pcs r).map (fun pc => npD n (i, pc)), none) := by
  refine cL_map (pcD n) _ _ fun p hp => ⟨_, by simp; rfl, ?_⟩
  simp [cE_pieces_of_2]
  rfl
theorem pieces_loop {l : Lad} (hn : l.n ≤ 5) : ∀ (rs : List Rung) (i : Nat) (fs : List Dt) (a b : Option SV), (∀ r ∈ rs, r.Ok l.n) → (∃ r ∈ rs, r.endless = true) → fs.length + 10 * rs.length ≤ 1000 →
    fL (gTu 2 (gsCons (gN 2) (gsCons (gN 3) gsNil))) lB_pieces_of_1 (enumD i (rs.map rd)) [some (.d (ld l)), some (.own fs), a, b, none, none] none = .rt (.d (.list (fs ++ (npcs i rs).map (npD l.n)))) none
  | [], _, _, _, _, _, h, _ => by obtain ⟨r, hr, _⟩ := h; cases hr
  | r :: rs, i, fs, a, b, k, h, hl => by
    have hr := k r (by simp)
    have h1 := rung_pieces_ok hr hn
    have h2 := pcs_len hr hn
    have h3 := is_endless_ok r
    have h4 := pieces_comp (n := l.n) (i := i) (r := r) (x0 := some (.d (ld l))) (x1 := some (.own fs)) (x3 := some (.d (rd r)))
    rw [List.length_cons] at hl
    rw [List.map_cons]
    have e : enumD i (rd r :: rs.map rd) = .tuple [.int (i : Int), rd r] :: enumD (i + 1) (rs.map rd) := rfl
    rw [e, fL_cons]
    have eb : lB_pieces_of_1 [some (.d (ld l)), some (.own fs), some (.d (.int (i : Int))), some (.d (rd r)), none, none] none =
        if r.endless = true then .rt (.d (.list (fs ++ (pcs r).map (fun pc => npD l.n (i, pc))))) none else .nx [some (.d (ld l)), some (.own (fs ++ (pcs r).map (fun pc => npD l.n (i, pc)))), some (.d (.int (i : Int))), some (.d (rd r)), none, none] none := by
      simp only [lB_pieces_of_1]
      cases he : r.endless with
      | true =>
        rw [he] at h3
        simp [h1, h3, h4, wipeOk, show (pcs r).length ≤ 100000 by omega, show fs.length + (pcs r).length ≤ 100000 by omega]
      | false =>
        rw [he] at h3
        simp [h1, h3, h4, wipeOk, show (pcs r).length ≤ 100000 by omega, show fs.length + (pcs r).length ≤ 100000 by omega]
    simp only [gTu_s, gsCons_s, gN_s, gsNil_s, List.length_cons, List.length_nil, if_true, Option.bind_some]
    simp
    rw [eb]
    unfold npcs
    cases he : r.endless with
    | true =>
      simp only [if_true]
      rw [List.append_nil, List.map_map]
      rfl
    | false =>
      simp only [Bool.false_eq_true, if_false]
      rw [pieces_loop hn rs (i + 1) _ _ _ (fun q hq => k q (List.mem_cons_of_mem _ hq)) (by
        obtain ⟨q, hq, e2⟩ := h
        rcases List.mem_cons.mp hq with z | z
        · rw [z, he] at e2; cases e2
        · exact ⟨q, z, e2⟩) (by simp; omega)]
      rw [List.map_append, List.map_map, List.append_assoc]
      rfl
theorem pieces_of_ok {l : Lad} (k : l.Ok) : F_pieces_of [ld l] = .ok (.list ((npcs 0 l.rs).map (npD l.n))) := by
  have h4 := k.r4
  have h := pieces_loop (l := l) k.n5 l.rs 0 [] none none k.ok k.ex (by simp; omega)
  unfold F_pieces_of
  simp only [B_pieces_of]
  simp at h
  simp [h]
/-! bends -/
def rowD (b : Mx.Row) : Dt := .tuple [fr b.1, fr b.2.1, fr b.2.2]
theorem flt_row {k : Nat} {b : Mx.Row} : flt (k + 2) (rowD b) = true := rfl
def Rb (k : Nat) (b : Mx.Row) : Prop := Bd k b.1 ∧ Bd k b.2.1 ∧ Bd 13 b.2.2
theorem bends_add {n h : Nat} {x0 x5 y6 : Option SV} {r : Nat → Rat} (hh : h < n) (acc : List Mx.Row) (s p : Rat) (hl : acc.length ≤ 1000) :
    sIf (bOr (bOf (eBin eqD (eBor 2) (eFrz (lLst aNil)))) (bOf (eBin neD (eBin ixD (eBin ixD (eBor 2) (eUn negD (eC (.int 1)))) (eC (.int 2))) (eBin ixD (eVar 7) (eVar 1))))) (sApp 2 (eTup (aCons (eVar 3) (aCons (eVar 4) (aCons (eBin ixD (eVar 7) (eVar 1)) aNil))))) sPass
        [x0, some (.d (.int (h : Int))), some (.own (acc.map rowD)), some (.d (fr s)), some (.d (fr p)), x5, y6, some (.d (.tuple (rtL n r)))] none = .nx [x0, some (.d (.int (h : Int))), some (.own ((addR acc s p (r h)).map rowD)), some (.d (fr s)), some (.d (fr p)), x5, y6, some (.d (.tuple (rtL n r)))] none := by
  have hix := ix_rtL (n := n) (h := h) (r := r) hh
  have hnil := eqD_nil (ds := acc.map rowD) (k := 2) (flts_map fun b _ => flt_row) (by decide)
  have ha : ∀ D : List Dt, D.length < 100000 → sApp 2 (eTup (aCons (eVar 3) (aCons (eVar 4) (aCons (eBin ixD (eVar 7) (eVar 1)) aNil)))) [x0, some (.d (.int (h : Int))), some (.own D), some (.d (fr s)), some (.d (fr p)), x5, y6, some (.d (.tuple (rtL n r)))] none = .nx [x0, some (.d (.int (h : Int))), some (.own (D ++ [rowD (s, p, r h)])), some (.d (fr s)), some (.d (fr p)), x5, y6, some (.d (.tuple (rtL n r)))] none := fun D hD => by
    simp [hix, hD, rowD]
  have hlen : (acc.map rowD).length < 100000 := by rw [List.length_map]; omega
  rw [sIf_s]
  rcases List.eq_nil_or_concat acc with he | ⟨pre, b, he⟩
  · subst he
    have ec : bOr (bOf (eBin eqD (eBor 2) (eFrz (lLst aNil)))) (bOf (eBin neD (eBin ixD (eBin ixD (eBor 2) (eUn negD (eC (.int 1)))) (eC (.int 2))) (eBin ixD (eVar 7) (eVar 1)))) [x0, some (.d (.int (h : Int))), some (.own (([] : List Mx.Row).map rowD)), some (.d (fr s)), some (.d (fr p)), x5, y6, some (.d (.tuple (rtL n r)))] none = .ok (true, none) := by
      rw [bOr_s, bOf_s, eBin_s]
      simp only [eBor_s, eFrz_s, lLst_s, aNil_s]
      simp at hnil
      simp [hnil]
    rw [ec]
    simp only [rOut_ok, if_true]
    rw [ha _ hlen]
    rfl
  · rw [List.concat_eq_append] at he
    subst he
    have hat : atI ((pre ++ [b]).map rowD) (-1) = some (rowD b) := by rw [List.map_append]; exact atI_last
    have e1 : ((pre ++ [b]).map rowD).isEmpty = false := by simp
    rw [e1] at hnil
    have hne := neD_fr (a := b.2.2) (b := r h)
    have hr2 : ixD (rowD b) (.int 2) = some (fr b.2.2) := by rfl
    have ea : addR (pre ++ [b]) s p (r h) = if b.2.2 = r h then pre ++ [b] else (pre ++ [b]) ++ [(s, p, r h)] := by unfold addR; simp
    rw [ea]
    have em : ((pre ++ [b]) ++ [(s, p, r h)]).map rowD = (pre ++ [b]).map rowD ++ [rowD (s, p, r h)] := by rw [List.map_append]; rfl
    generalize hD : (pre ++ [b]).map rowD = D at *
    have ec : bOr (bOf (eBin eqD (eBor 2) (eFrz (lLst aNil)))) (bOf (eBin neD (eBin ixD (eBin ixD (eBor 2) (eUn negD (eC (.int 1)))) (eC (.int 2))) (eBin ixD (eVar 7) (eVar 1)))) [x0, some (.d (.int (h : Int))), some (.own D), some (.d (fr s)), some (.d (fr p)), x5, y6, some (.d (.tuple (rtL n r)))] none = .ok (!decide (b.2.2 = r h), none) := by
      simp [hnil, hat, hr2, hix, hne]
    rw [ec]
    simp only [rOut_ok]
    by_cases hq : b.2.2 = r h
    · rw [if_pos hq, decide_eq_true hq, hD]
      rfl
    · rw [if_neg hq, decide_eq_false hq, em]
      simp only [Bool.not_false, if_true]
      exact ha D hlen
theorem bends_loop {n h : Nat} {x0 : Option SV} (hh : h < n) : ∀ (ps : List (Nat × Pc)) (acc : List Mx.Row) (s p : Rat) (j5 j6 j7 : Option SV), Gd h s p (ps.map (·.2)) → acc.length + ps.length ≤ 1000 →
    ∃ y3 y4 y5 y6 y7, fL (gTu 3 (gsCons (gN 5) (gsCons (gN 6) (gsCons (gN 7) gsNil)))) lB_found_bends_1 (ps.map (npD n)) [x0, some (.d (.int (h : Int))), some (.own (acc.map rowD)), some (.d (fr s)), some (.d (fr p)), j5, j6, j7] none =
      .nx [x0, some (.d (.int (h : Int))), some (.own ((bgo h (ps.map (·.2)) acc s p).map rowD)), y3, y4, y5, y6, y7] none
  | [], acc, s, p, j5, j6, j7, _, _ => ⟨_, _, _, _, _, rfl⟩
  | (i, o, r) :: ps, acc, s, p, j5, j6, j7, gd, hl => by
    rw [List.length_cons] at hl
    have hix := ix_rtL (n := n) (h := h) (r := r) hh
    have hadd := bends_add (x0 := x0) (x5 := some (.d (.int (i : Int)))) (y6 := some (.d (lnD o))) (r := r) hh acc s p (by omega)
    have hal : (addR acc s p (r h)).length ≤ acc.length + 1 := by
      unfold addR
      split
      · simp
      · split
        · omega
        · simp
    rw [List.map_cons, fL_cons]
    have eg : gTu 3 (gsCons (gN 5) (gsCons (gN 6) (gsCons (gN 7) gsNil))) (npD n (i, o, r)) [x0, some (.d (.int (h : Int))), some (.own (acc.map rowD)), some (.d (fr s)), some (.d (fr p)), j5, j6, j7] = some [x0, some (.d (.int (h : Int))), some (.own (acc.map rowD)), some (.d (fr s)), some (.d (fr p)), some (.d (.int (i : Int))), some (.d (lnD o)), some (.d (.tuple (rtL n r)))] := by simp
    rw [eg]
    simp only
    cases o with
    | none =>
      obtain ⟨g1, g2, g3, g4⟩ := gd
      have hps : ps = [] := by simpa using g4
      subst hps
      have eb : lB_found_bends_1 [x0, some (.d (.int (h : Int))), some (.own (acc.map rowD)), some (.d (fr s)), some (.d (fr p)), some (.d (.int (i : Int))), some (.d (lnD none)), some (.d (.tuple (rtL n r)))] none = .nx [x0, some (.d (.int (h : Int))), some (.own ((addR acc s p (r h)).map rowD)), some (.d (fr s)), some (.d (fr p)), some (.d (.int (i : Int))), some (.d (lnD none)), some (.d (.tuple (rtL n r)))] none := by
        simp only [lB_found_bends_1]
        rw [sSeq_s, hadd]
        simp [lnD]
      rw [eb]
      exact ⟨_, _, _, _, _, rfl⟩
    | some l =>
      obtain ⟨g1, g2, g3, g4, g5⟩ := gd
      have p1 := plus_ok (a := s) (b := l) (g1.mono (by decide)) (g4.mono (by decide))
      have p2 := product_ok (a := l) (b := r h) (g4.mono (by decide)) (g3.mono (by decide))
      have p3 := plus_ok (a := p) (b := l * r h) (g2.mono (by decide)) ((g4.mul g3).mono (by decide))
      have eb : lB_found_bends_1 [x0, some (.d (.int (h : Int))), some (.own (acc.map rowD)), some (.d (fr s)), some (.d (fr p)), some (.d (.int (i : Int))), some (.d (lnD (some l))), some (.d (.tuple (rtL n r)))] none = .nx [x0, some (.d (.int (h : Int))), some (.own ((addR acc s p (r h)).map rowD)), some (.d (fr (s + l))), some (.d (fr (p + l * r h))), some (.d (.int (i : Int))), some (.d (lnD (some l))), some (.d (.tuple (rtL n r)))] none := by
        simp only [lB_found_bends_1]
        rw [sSeq_s, hadd]
        simp [lnD, p1, p2, p3, hix]
      rw [eb]
      exact bends_loop hh ps (addR acc s p (r h)) (s + l) (p + l * r h) _ _ _ g5 (by omega)
theorem npcs_len {n : Nat} (hn : n ≤ 5) : ∀ (i : Nat) (rs : List Rung), (∀ r ∈ rs, r.Ok n) → (npcs i rs).length ≤ 10 * rs.length
  | _, [], _ => Nat.le_refl _
  | i, r :: rs, k => by
    have h1 := pcs_len (k r (by simp)) hn
    have h2 := npcs_len hn (i + 1) rs fun q hq => k q (List.mem_cons_of_mem _ hq)
    unfold npcs
    rw [List.length_append, List.length_map, List.length_cons]
    split
    · simp; omega
    · omega
theorem found_bends_ok {l : Lad} {h : Nat} (k : l.Ok) (hh : h < l.n) : F_found_bends [ld l, .int (h : Int)] = .ok (.list ((rowsL l.rs h).map rowD)) := by
  have h4 := k.r4
  have hp := pieces_of_ok k
  have hl := npcs_len k.n5 0 l.rs k.ok
  have gd := k.gd h
  rw [← npcs_snd 0] at gd
  obtain ⟨y3, y4, y5, y6, y7, hf⟩ := bends_loop (x0 := some (.d (ld l))) hh (npcs 0 l.rs) [] 0 0 none none none gd (by simp; omega)
  rw [npcs_snd] at hf
  have e0 : bgo h (lpcs l.rs) [] 0 0 = rowsL l.rs h := rfl
  rw [e0] at hf
  have hf' : fL (gTu 3 (gsCons (gN 5) (gsCons (gN 6) (gsCons (gN 7) gsNil)))) lB_found_bends_1 ((npcs 0 l.rs).map (npD l.n)) [some (.d (ld l)), some (.d (.int (h : Int))), some (.own []), some (.d (.tuple [.int 0, .int 1])), some (.d (.tuple [.int 0, .int 1])), none, none, none] none = _ := hf
  unfold F_found_bends
  simp only [B_found_bends]
  simp [hp, hf']
end Sx

namespace Sx
open PySem PySem.Spec PyProof.Rows L2 Mx
theorem rows_bd {h : Nat} : ∀ (ps : List Pc) (acc : List Mx.Row) (s p : Rat), Gd h s p ps → (∀ b ∈ acc, Rb 24 b) → ∀ b ∈ bgo h ps acc s p, Rb 24 b
  | [], acc, s, p, _, k, b, hb => k b hb
  | (o, r) :: ps, acc, s, p, gd, k, b, hb => by
    have hadd : Bd 24 s → Bd 24 p → Bd 13 (r h) → ∀ b ∈ addR acc s p (r h), Rb 24 b := fun h1 h2 h3 b hb => by
      have hnew : ∀ b ∈ acc ++ [(s, p, r h)], Rb 24 b := fun b hb => by
        rcases List.mem_append.mp hb with z | z
        · exact k b z
        · rw [List.mem_singleton.mp z]; exact ⟨h1, h2, h3⟩
      unfold addR at hb
      split at hb
      · exact hnew b hb
      · split at hb
        · exact k b hb
        · exact hnew b hb
    cases o with
    | none =>
      obtain ⟨g1, g2, g3, g4⟩ := gd
      subst g4
      exact hadd g1 g2 g3 b hb
    | some l =>
      obtain ⟨g1, g2, g3, g4, g5⟩ := gd
      exact rows_bd ps _ _ _ g5 (hadd g1 g2 g3) b hb
theorem rows_first {n : Nat} {rs : List Rung} {h : Nat} (k : ∀ r ∈ rs, r.Ok n) (e : ∃ r ∈ rs, r.endless = true) : ∃ r m, rowsL rs h = (0, 0, r) :: m := by
  have h1 := lpcs_ok k
  have h2 := lpcs_end k e
  unfold rowsL
  cases hp : lpcs rs with
  | nil => rw [hp] at h2; obtain ⟨qs, r, e, _⟩ := h2; simp at e
  | cons pc ps =>
    rw [hp] at h1
    obtain ⟨o, r⟩ := pc
    have k' : ∀ pc ∈ ps, PcOk n pc := fun pc hp => h1 pc (List.mem_cons_of_mem _ hp)
    cases o with
    | none =>
      obtain ⟨m, e, _⟩ := bgo_ext (n := n) (h := h) ps [(0, 0, r h)] 0 0 k'
      exact ⟨r h, m, e⟩
    | some l =>
      obtain ⟨m, e, _⟩ := bgo_ext (n := n) (h := h) ps [(0, 0, r h)] (0 + l) (0 + l * r h) k'
      exact ⟨r h, m, e⟩
@[simp] theorem gTu_row {b : Mx.Row} {gs : SGs} {ρ : Sl} : gTu 3 gs (rowD b) ρ = gs [fr b.1, fr b.2.1, fr b.2.2] ρ := by rfl
@[simp] theorem ix_row0 {b : Mx.Row} : ixD (rowD b) (.int 0) = some (fr b.1) := by rfl
@[simp] theorem ix_row1 {b : Mx.Row} : ixD (rowD b) (.int 1) = some (fr b.2.1) := by rfl
@[simp] theorem ix_row2 {b : Mx.Row} : ixD (rowD b) (.int 2) = some (fr b.2.2) := by rfl
theorem payment_at_ok {rows : List Mx.Row} {x : Rat} {r : Rat} {m : List Mx.Row} {k : Nat} (hb : ∀ b ∈ rows, Rb 24 b) (hx : 0 ≤ x) (hxb : Bd k x) (hk : k ≤ 3000) (hr : rows = (0, 0, r) :: m) (hl : rows.length ≤ 1000) : F_payment_at [.list (rows.map rowD), fr x] = .ok (fr (payR rows x)) ∧ Bd (k + 63) (payR rows x) := by
  have hc : cL (gN 6) cC_payment_at_1 cE_payment_at_1 [some (.d (.list (rows.map rowD))), some (.d (fr x)), none, none, none, none, none] (rows.map rowD) none = .ok ((upTo rows x).map rowD, none) := by
    unfold Mx.upTo
    refine cL_ty rowD _ _ rows fun b hb' => ⟨_, by simp; rfl, ?_, fun _ => by simp [cE_payment_at_1]⟩
    have := is_less_ok (a := x) (b := b.1) (hxb.mono (by omega)) ((hb b hb').1.mono (by decide))
    simp [cC_payment_at_1, this]
  have hne : upTo rows x ≠ [] := by
    have : (0, 0, r) ∈ upTo rows x := by
      unfold Mx.upTo
      rw [List.mem_filter, hr]
      exact ⟨by simp, by simp; exact Rat.not_lt.mpr hx⟩
    exact fun z => by rw [z] at this; cases this
  rcases List.eq_nil_or_concat (upTo rows x) with he | ⟨pre, b, he⟩
  · exact absurd he hne
  · rw [List.concat_eq_append] at he
    have hbm : b ∈ rows := by
      have : b ∈ upTo rows x := by rw [he]; simp
      exact (List.mem_filter.mp this).1
    obtain ⟨b1, b2, b3⟩ := hb b hbm
    have hp : payR rows x = b.2.1 + b.2.2 * (x - b.1) := by unfold payR; rw [he]; simp
    have hat : atI ((upTo rows x).map rowD) (-1) = some (rowD b) := by rw [he, List.map_append]; exact atI_last
    have p1 := minus_ok (a := x) (b := b.1) (hxb.mono (by omega)) (b1.mono (by decide))
    have bd1 := hxb.sub b1
    have p2 := product_ok (a := b.2.2) (b := x - b.1) (b3.mono (by decide)) (bd1.mono (by omega))
    have bd2 := b3.mul bd1
    have p3 := plus_ok (a := b.2.1) (b := b.2.2 * (x - b.1)) (b2.mono (by decide)) (bd2.mono (by omega))
    rw [hp]
    refine ⟨?_, (b2.add bd2).mono (by omega)⟩
    unfold F_payment_at
    simp only [B_payment_at]
    generalize hD : (upTo rows x).map rowD = D at *
    simp [hc, wipeOk, show rows.length ≤ 100000 by omega, hat, p1, p2, p3]
theorem rowsL_len {l : Lad} (k : l.Ok) (h : Nat) : (rowsL l.rs h).length ≤ 1000 := by
  have h1 : ∀ (ps : List Pc) (acc : List Mx.Row) (s p : Rat), (bgo h ps acc s p).length ≤ acc.length + ps.length := by
    intro ps
    induction ps with
    | nil => intro acc s p; exact Nat.le_refl _
    | cons pc ps ih =>
      intro acc s p
      obtain ⟨o, r⟩ := pc
      have hal : (addR acc s p (r h)).length ≤ acc.length + 1 := by
        unfold addR
        split
        · simp
        · split
          · omega
          · simp
      rw [List.length_cons]
      cases o with
      | none => have := ih (addR acc s p (r h)) s p; show (bgo h ps _ _ _).length ≤ _; omega
      | some l => have := ih (addR acc s p (r h)) (s + l) (p + l * r h); show (bgo h ps _ _ _).length ≤ _; omega
  have h2 := h1 (lpcs l.rs) [] 0 0
  have h3 := npcs_len k.n5 0 l.rs k.ok
  have h4 := k.r4
  have h5 : (lpcs l.rs).length = (npcs 0 l.rs).length := by rw [← npcs_snd 0, List.length_map]
  unfold rowsL
  simp at h2
  omega
theorem rowsL_bd {l : Lad} (k : l.Ok) (h : Nat) : ∀ b ∈ rowsL l.rs h, Rb 24 b := rows_bd _ _ _ _ (k.gd h) fun b hb => by cases hb
theorem pay_one {l : Lad} {h k : Nat} {x : Rat} (hk : l.Ok) (hh : h < l.n) (hx : 0 ≤ x) (hxb : Bd k x) (hkk : k ≤ 3000) : F_payment_at [.list ((rowsL l.rs h).map rowD), fr x] = .ok (fr (l.T x h)) ∧ Bd (k + 63) (l.T x h) := by
  obtain ⟨r, m, e⟩ := rows_first (h := h) hk.ok hk.ex
  have := payment_at_ok (rowsL_bd hk h) hx hxb hkk e (rowsL_len hk h)
  rw [rows_pay hk.ok hk.ex hx] at this
  exact this
theorem rngOf_n {n : Nat} (h : n ≤ 1000) : rngOf [.int (n : Int)] = some ((List.range n).map fun (i : Nat) => PyData.int (i : Int)) := by
  show (if (n : Int) ≤ 100000 ∧ -100000 ≤ (n : Int) then some (rngD (n : Int)) else none) = _
  rw [if_pos (by omega)]
  rfl
theorem all_payments_ok {l : Lad} {k : Nat} {x : Rat} (hk : l.Ok) (hx : 0 ≤ x) (hxb : Bd k x) (hkk : k ≤ 3000) : F_all_payments [ld l, fr x] = .ok (.tuple (rtL l.n (l.T x))) := by
  have h5 := hk.n5
  have hc : cL (gN 2) bYes cE_all_payments_1 [some (.d (ld l)), some (.d (fr x)), none] ((List.range l.n).map fun (i : Nat) => PyData.int (i : Int)) none = .ok (rtL l.n (l.T x), none) := by
    unfold rtL
    refine cL_map (fun (i : Nat) => PyData.int (i : Int)) _ _ fun i hi => ⟨_, by simp; rfl, ?_⟩
    have hi := List.mem_range.mp hi
    have h1 := found_bends_ok hk hi
    have h2 := (pay_one hk hi hx hxb hkk).1
    simp [cE_all_payments_1, h1, h2]
  unfold F_all_payments
  simp only [B_all_payments]
  simp [rngOf_n (show l.n ≤ 1000 by omega), wipeOk, show l.n ≤ 100000 by omega, hc]
theorem zip_rtL {n : Nat} {f g : Nat → Rat} : zipD (rtL n f) (rtL n g) = (List.range n).map fun h => PyData.tuple [fr (f h), fr (g h)] := by
  unfold zipD rtL
  rw [List.zipWith_map]
  induction n with
  | zero => rfl
  | succ n ih =>
    rw [List.range_succ, List.zipWith_append (by simp), ih, List.map_append]
    rfl
end Sx

namespace Sx
open PySem PySem.Spec PyProof.Rows L2 Mx
/-! ### draws -/
abbrev iD (n : Nat) : Dt := .int (n : Int)
def scD (ns : List Int) : Dt := .list (ns.map PyData.int)
def Tn (ns : List Int) (m : Nat) (ws : List Dt) : Prop := ∃ (c : Nat) (zs : List Int), ws = .int (c : Int) :: zs.map PyData.int ∧ zs.length = ns.length ∧ c + m ≤ 1000000
theorem Tn.mono {ns : List Int} {m m' : Nat} {ws : List Dt} (h : Tn ns m ws) (hm : m' ≤ m) : Tn ns m' ws := by
  obtain ⟨c, zs, h1, h2, h3⟩ := h
  exact ⟨c, zs, h1, h2, by omega⟩
theorem town_ok (ns : List Int) (h : ns.length ≤ 63) : F__law_town [scD ns] = .ok (.int 0 :: ns.map PyData.int) := by
  unfold F__law_town
  simp only [B__law_town, scD]
  have : addL (.list [.int 0]) (.list (ns.map PyData.int)) = some (.int 0 :: ns.map PyData.int) := by
    show (if ([PyData.int 0] : List Dt).length + (ns.map PyData.int).length ≤ 100000 then some ([PyData.int 0] ++ ns.map PyData.int) else none) = _
    rw [if_pos (by simp; omega)]; rfl
  simp [this]
theorem Tn.start (ns : List Int) : Tn ns 1000000 (.int 0 :: ns.map PyData.int) := ⟨0, ns, rfl, rfl, by omega⟩
theorem flts_ints {k : Nat} (ns : List Int) : flts k (ns.map PyData.int) = true := flts_map fun _ _ => by cases k <;> rfl
theorem atI_ints {ns : List Int} {i : Nat} (h : i < ns.length) : atI (ns.map PyData.int) (i : Int) = some (.int (ns.getD i 0)) := by
  rw [atI_nat (by simpa using h), List.getElem?_map, List.getD_eq_getElem?_getD, List.getElem?_eq_getElem h]; rfl
theorem setD_0 {c : Dt} {zs : List Dt} {d : Dt} : setD (c :: zs) (.int 0) d = some (d :: zs) := by
  show (ixN (c :: zs).length 0).map _ = _
  have : ixN (c :: zs).length 0 = some 0 := by
    have := ixN_nat (n := (c :: zs).length) (h := 0) (by simp)
    simpa using this
  rw [this]; rfl
theorem setD_s {c : Dt} {zs : List Int} {d : Int} {i : Nat} (h : i < zs.length) : setD (c :: zs.map PyData.int) (.int (1 + (i : Int))) (.int d) = some (c :: (zs.set i d).map PyData.int) := by
  show (ixN (c :: zs.map PyData.int).length (1 + (i : Int))).map _ = _
  have e : ((1 : Int) + (i : Int)) = ((1 + i : Nat) : Int) := by omega
  rw [e, ixN_nat (by simp; omega), show 1 + i = i + 1 by omega]
  show some (c :: (zs.map PyData.int).set i (.int d)) = _
  rw [List.map_set]
theorem atI_s {c : Dt} {zs : List Int} {i : Nat} (h : i < zs.length) : atI (c :: zs.map PyData.int) (1 + (i : Int)) = some (.int (zs.getD i 0)) := by
  have e : ((1 : Int) + (i : Int)) = ((i + 1 : Nat) : Int) := by omega
  rw [e, atI_nat (by simp; omega), List.getElem?_cons_succ, List.getElem?_map, List.getD_eq_getElem?_getD, List.getElem?_eq_getElem h]; rfl
theorem powD_i {a : Int} {b : Nat} (h : a.natAbs < 2 ^ 64) (hb : b ≤ 1000000) : powD (.int a) (.int (b : Int)) = some (.int (a ^ b)) := by
  show (if 0 ≤ (b : Int) ∧ (b : Int) ≤ 1000000 ∧ a.natAbs < 2 ^ 64 then some (PyData.int (a ^ (b : Int).toNat)) else none) = _
  rw [if_pos ⟨by omega, by omega, h⟩, Int.toNat_natCast]
theorem draw_ok {ns : List Int} {m L : Nat} {ws : List Dt} (hl : ns.length ≤ 63) (hL : 0 < L) (hLb : L < 2 ^ 64) (t : Tn ns (m + 1) ws) : ∃ (d : Nat) (ws' : List Dt), F__law_draw [scD ns, .int (L : Int)] ws = .ok (iD d, ws') ∧ d < L ∧ Tn ns m ws' := by
  obtain ⟨c, zs, rfl, hz, hc⟩ := t
  have hm : ∀ x : Int, ∃ d : Nat, x % (L : Int) = (d : Int) ∧ d < L := fun x => by
    have h1 := Int.emod_nonneg x (show (L : Int) ≠ 0 by omega)
    have h2 := Int.emod_lt_of_pos x (show (0 : Int) < (L : Int) by omega)
    exact ⟨(x % (L : Int)).toNat, by omega, by omega⟩
  have hLlog : (L : Nat).log2 < 9000 := by
    rw [Nat.log2_lt (by omega)]
    exact Nat.lt_of_lt_of_le hLb (Nat.pow_le_pow_right (by decide) (by decide))
  have hcc : ((c : Int) + 1).natAbs < 2 ^ 20 := by
    have : ((c : Int) + 1).natAbs ≤ 1000000 := by omega
    exact Nat.lt_of_le_of_lt this (by decide)
  by_cases hns : ns = []
  · subst hns
    have hz0 : zs = [] := List.eq_nil_of_length_eq_zero hz
    subst hz0
    obtain ⟨d, hd, hd2⟩ := hm (((c : Int) + 1) * ((c : Int) + 1) * 7 / 3)
    refine ⟨d, [.int ((c : Int) + 1)], ?_, hd2, c + 1, [], rfl, rfl, by omega⟩
    have m1 : mulOk ((c : Int) + 1) ((c : Int) + 1) = true := mulOk_of hcc hcc (by decide)
    have m2 : mulOk (((c : Int) + 1) * ((c : Int) + 1)) 7 = true := mulOk_of (j := 40) (k := 3) (by rw [Int.natAbs_mul]; exact mul_lt_pow hcc hcc) (by decide) (by decide)
    have hnil : eqD (scD []) (.list []) = some (.bool true) := eqD_nil (k := 1) rfl (by decide)
    unfold F__law_draw
    simp only [B__law_draw]
    simp [setD_0, hnil, m1, m2, hL, hd, show Nat.log2 3 < 9000 by decide]
  · have hpos : 0 < ns.length := List.length_pos_iff.mpr hns
    have hnil : eqD (scD ns) (.list []) = some (.bool false) := by
      have := eqD_nil (ds := ns.map PyData.int) (k := 1) (flts_ints ns) (by decide)
      unfold scD
      rw [this]
      cases ns with
      | nil => exact absurd rfl hns
      | cons _ _ => rfl
    obtain ⟨i, hi, hi2⟩ : ∃ i : Nat, ((c : Int) + 1) % (ns.length : Int) = (i : Int) ∧ i < ns.length := by
      have h1 := Int.emod_nonneg ((c : Int) + 1) (show (ns.length : Int) ≠ 0 by omega)
      have h2 := Int.emod_lt_of_pos ((c : Int) + 1) (show (0 : Int) < (ns.length : Int) by omega)
      exact ⟨(((c : Int) + 1) % (ns.length : Int)).toNat, by omega, by omega⟩
    have hlen : lenD [scD ns] = some (.int ns.length) := by unfold scD; simp
    have hat := atI_ints (ns := ns) hi2
    have hats : ixD (scD ns) (.int (i : Int)) = some (.int (ns.getD i 0)) := hat
    have hatz := fun c0 : Dt => atI_s (c := c0) (zs := zs) (i := i) (by omega)
    have hset := fun d : Int => setD_s (c := PyData.int ((c : Int) + 1)) (zs := zs) (d := d) (i := i) (by omega)
    have hp18 : powD (.int 10) (.int 18) = some (.int (10 ^ 18)) := powD_i (a := 10) (b := 18) (by decide) (by decide)
    by_cases hbig : (1000000000000000000 : Int) ≤ ns.getD i 0 ∧ 0 < zs.getD i 0
    · obtain ⟨d, hd, hd2⟩ := hm (zs.getD i 0)
      refine ⟨d, .int ((c : Int) + 1) :: (zs.set i (zs.getD i 0 / (L : Int))).map PyData.int, ?_, hd2, c + 1, _, rfl, by rw [List.length_set]; exact hz, by omega⟩
      unfold F__law_draw
      simp only [B__law_draw]
      simp only [List.getD_eq_getElem?_getD] at hats hatz hset hbig hd ⊢
      simp [setD_0, hnil, hlen, hpos, hi, hats, hatz, hset, hp18, hbig.1, hbig.2, hL, hLlog, hd]
    · have hb5 : ∀ x : Int, ∃ y : Nat, x % 4294967291 = (y : Int) ∧ y < 4294967291 := fun x => ⟨(x % 4294967291).toNat, by omega, by omega⟩
      obtain ⟨y, hy, hy2⟩ := hb5 (ns.getD i 0 + 104729 * ((c : Int) + 1))
      obtain ⟨z, hz1, hz2⟩ : ∃ z : Nat, ((y : Int) ^ 5) % 4294967279 = (z : Int) ∧ z < 4294967279 := ⟨(((y : Int) ^ 5) % 4294967279).toNat, by omega, by omega⟩
      obtain ⟨d, hd, hd2⟩ := hm (((z : Int) / 64 * 69621 + z) % 4294967231 / 8)
      refine ⟨d, .int ((c : Int) + 1) :: zs.map PyData.int, ?_, hd2, c + 1, zs, rfl, hz, by omega⟩
      have m1 : mulOk 104729 ((c : Int) + 1) = true := mulOk_of (j := 20) (k := 20) (by decide) hcc (by decide)
      have m2 : mulOk ((z : Int) / 64) 69621 = true := mulOk_of (j := 33) (k := 20) (by
        have : ((z : Int) / 64).natAbs ≤ 4294967279 := by omega
        exact Nat.lt_of_le_of_lt this (by decide)) (by decide) (by decide)
      have hpw : powD (.int (y : Int)) (.int 5) = some (.int ((y : Int) ^ 5)) := powD_i (a := (y : Int)) (b := 5) (by
        have : (y : Int).natAbs ≤ 4294967291 := by omega
        exact Nat.lt_of_le_of_lt this (by decide)) (by decide)
      have hcnd : ∀ (ρ : Sl) (W : Tw), True := fun _ _ => trivial
      unfold F__law_draw
      simp only [B__law_draw]
      simp only [List.getD_eq_getElem?_getD] at hats hatz hbig hy ⊢
      by_cases hq : (1000000000000000000 : Int) ≤ ns[i]?.getD 0
      · have hq2 : ¬ (0 : Int) < zs[i]?.getD 0 := fun z => hbig ⟨hq, z⟩
        simp [setD_0, hnil, hlen, hpos, hi, hats, hatz, hp18, hq, hq2, m1, m2, hy, hpw, hz1, hL, hd, show Nat.log2 64 < 9000 by decide, show Nat.log2 8 < 9000 by decide]
      · simp [setD_0, hnil, hlen, hpos, hi, hats, hatz, hp18, hq, m1, m2, hy, hpw, hz1, hL, hd, show Nat.log2 64 < 9000 by decide, show Nat.log2 8 < 9000 by decide]
end Sx

namespace Sx
open PySem PySem.Spec PyProof.Rows L2 Mx
section
variable {ns : List Int}
theorem cL_tw {α : Type} {g : SG} {c : SB} {e : SE} {ρ0 : Sl} (enc : α → Dt) (b : Nat) (Q : α → Dt → Prop) : ∀ (xs : List α) (m : Nat) (ws : List Dt), Tn ns (m + b * xs.length) ws →
    (∀ x ∈ xs, ∀ m ws, Tn ns (m + b) ws → ∃ ρ1, g (enc x) ρ0 = some ρ1 ∧ ((∃ ws', c ρ1 (some ws) = .ok (false, some ws') ∧ Tn ns m ws') ∨ ∃ ws1 v ws', c ρ1 (some ws) = .ok (true, some ws1) ∧ e ρ1 (some ws1) = .ok (v, some ws') ∧ Q x v ∧ Tn ns m ws')) →
    ∃ (ys : List (α × Dt)) (ws' : List Dt), cL g c e ρ0 (xs.map enc) (some ws) = .ok (ys.map (·.2), some ws') ∧ (ys.map (·.1)).Sublist xs ∧ (∀ y ∈ ys, Q y.1 y.2) ∧ Tn ns m ws'
  | [], m, ws, t, _ => ⟨[], ws, rfl, .slnil, fun y hy => (by cases hy), t.mono (by omega)⟩
  | x :: xs, m, ws, t, h => by
    rw [List.length_cons, Nat.mul_succ, ← Nat.add_assoc] at t
    obtain ⟨ρ1, h1, h2⟩ := h x (by simp) _ ws t
    rw [List.map_cons]
    unfold cL
    simp only [h1]
    rcases h2 with ⟨ws', h3, t'⟩ | ⟨ws1, v, ws', h3, h4, hq, t'⟩
    · obtain ⟨ys, ws2, i1, i2, i3, i4⟩ := cL_tw enc b Q xs m ws' t' fun y hy => h y (List.mem_cons_of_mem _ hy)
      refine ⟨ys, ws2, ?_, i2.cons x, i3, i4⟩
      simp only [h3, nox_ok, Res.bind_ok, Bool.false_eq_true, if_false, i1]
    · obtain ⟨ys, ws2, i1, i2, i3, i4⟩ := cL_tw enc b Q xs m ws' t' fun y hy => h y (List.mem_cons_of_mem _ hy)
      refine ⟨(x, v) :: ys, ws2, ?_, ?_, ?_, i4⟩
      · simp only [h3, nox_ok, Res.bind_ok, if_true, h4, i1]; rfl
      · exact i2.cons_cons x
      · intro y hy
        rcases List.mem_cons.mp hy with z | z
        · rw [z]; exact hq
        · exact i3 y z
theorem cL_tw1 {α : Type} {g : SG} {e : SE} {ρ0 : Sl} (enc : α → Dt) (b : Nat) (Q : α → Dt → Prop) : ∀ (xs : List α) (m : Nat) (ws : List Dt), Tn ns (m + b * xs.length) ws →
    (∀ x ∈ xs, ∀ m ws, Tn ns (m + b) ws → ∃ ρ1 v ws', g (enc x) ρ0 = some ρ1 ∧ e ρ1 (some ws) = .ok (v, some ws') ∧ Q x v ∧ Tn ns m ws') →
    ∃ (ys : List (α × Dt)) (ws' : List Dt), cL g bYes e ρ0 (xs.map enc) (some ws) = .ok (ys.map (·.2), some ws') ∧ ys.map (·.1) = xs ∧ (∀ y ∈ ys, Q y.1 y.2) ∧ Tn ns m ws'
  | [], m, ws, t, _ => ⟨[], ws, rfl, rfl, fun y hy => (by cases hy), t.mono (by omega)⟩
  | x :: xs, m, ws, t, h => by
    rw [List.length_cons, Nat.mul_succ, ← Nat.add_assoc] at t
    obtain ⟨ρ1, v, ws', h1, h4, hq, t'⟩ := h x (by simp) _ ws t
    rw [List.map_cons]
    unfold cL
    simp only [h1]
    obtain ⟨ys, ws2, i1, i2, i3, i4⟩ := cL_tw1 enc b Q xs m ws' t' fun y hy => h y (List.mem_cons_of_mem _ hy)
    refine ⟨(x, v) :: ys, ws2, ?_, ?_, ?_, i4⟩
    · simp only [bYes_s, nox_ok, Res.bind_ok, if_true, h4, i1]; rfl
    · rw [List.map_cons, i2]
    · intro y hy
      rcases List.mem_cons.mp hy with z | z
      · rw [z]; exact hq
      · exact i3 y z
theorem fL_tw {α : Type} {g : SG} {body : SS} (enc : α → Dt) (b : Nat) (I : List α → Sl → Prop) (ys : List α)
    (h : ∀ pre x post ρ m ws, ys = pre ++ x :: post → I pre ρ → Tn ns (m + b) ws → ∃ ρ1 ρ2 ws', g (enc x) ρ = some ρ1 ∧ body ρ1 (some ws) = .nx ρ2 (some ws') ∧ I (pre ++ [x]) ρ2 ∧ Tn ns m ws') :
    ∀ (xs pre : List α) (ρ : Sl) (m : Nat) (ws : List Dt), ys = pre ++ xs → I pre ρ → Tn ns (m + b * xs.length) ws → ∃ ρ' ws', fL g body (xs.map enc) ρ (some ws) = .nx ρ' (some ws') ∧ I ys ρ' ∧ Tn ns m ws'
  | [], pre, ρ, m, ws, e, i, t => ⟨ρ, ws, rfl, by rw [e, List.append_nil]; exact i, t.mono (by omega)⟩
  | x :: xs, pre, ρ, m, ws, e, i, t => by
    rw [List.length_cons, Nat.mul_succ, ← Nat.add_assoc] at t
    obtain ⟨ρ1, ρ2, ws', h1, h2, h3, t'⟩ := h pre x xs ρ _ ws e i t
    obtain ⟨ρ', ws2, h4, h5, t2⟩ := fL_tw enc b I ys h xs (pre ++ [x]) ρ2 m ws' (by rw [e]; simp) h3 t'
    refine ⟨ρ', ws2, ?_, h5, t2⟩
    rw [List.map_cons, fL_cons, h1]
    simp only [h2, h4]
theorem pick_ok {cs : List Dt} {m : Nat} {ws : List Dt} {k : Bool} (hl : ns.length ≤ 63) (h0 : 0 < cs.length) (h1 : cs.length ≤ 1000) (t : Tn ns (m + 1) ws) :
    ∃ (v : Dt) (ws' : List Dt), F__law_pick [scD ns, if k then .list cs else .tuple cs] ws = .ok (v, ws') ∧ v ∈ cs ∧ Tn ns m ws' := by
  obtain ⟨d, ws', hd, hd2, t'⟩ := draw_ok (L := cs.length) hl h0 (Nat.lt_of_le_of_lt h1 (by decide)) t
  refine ⟨cs[d], ws', ?_, List.getElem_mem hd2, t'⟩
  have hat : atI cs (d : Int) = some cs[d] := by rw [atI_nat hd2, List.getElem?_eq_getElem hd2]
  unfold F__law_pick
  simp only [B__law_pick]
  cases k <;> simp [hd, hat]
theorem pick_nat {nums : List Nat} {m : Nat} {ws : List Dt} (hl : ns.length ≤ 63) (h0 : 0 < nums.length) (h1 : nums.length ≤ 1000) (t : Tn ns (m + 1) ws) :
    ∃ (v : Nat) (ws' : List Dt), F__law_pick [scD ns, .list (nums.map iD)] ws = .ok (iD v, ws') ∧ v ∈ nums ∧ Tn ns m ws' := by
  obtain ⟨v, ws', h, hv, t'⟩ := pick_ok (k := true) (cs := nums.map iD) hl (by simpa using h0) (by simpa using h1) t
  obtain ⟨n, hn, rfl⟩ := List.mem_map.mp hv
  exact ⟨n, ws', h, hn, t'⟩
theorem pairs_ok {n M m : Nat} {nums : List Nat} {ws : List Dt} (hl : ns.length ≤ 63) (hn1 : 1 ≤ n) (hn : n ≤ 5) (h0 : 0 < nums.length) (h1 : nums.length ≤ 1000) (hM : ∀ x ∈ nums, 1 ≤ x ∧ x ≤ M) (t : Tn ns (m + 11) ws) :
    ∃ (ps : List (Nat × Nat)) (ws' : List Dt), F__law_pairs [scD ns, iD n, .list (nums.map iD)] ws = .ok (prs ps, ws') ∧ ps ≠ [] ∧ POk n M ps ∧ Tn ns m ws' := by
  have t0 : Tn ns ((m + 6) + 1 * (List.range n).length) ws := t.mono (by simp; omega)
  obtain ⟨ys, ws1, c1, c2, c3, c4⟩ := cL_tw (ns := ns) (g := gN 5) (c := cC__law_pairs_1) (e := cE__law_pairs_1) (ρ0 := [some (.d (scD ns)), some .town, some (.d (iD n)), some (.d (.list (nums.map iD))), none, none]) iD 1 (fun x v => v = iD x) (List.range n) (m + 6) ws t0 (by
    intro x hx m ws t
    obtain ⟨d, ws', hd, hd2, t'⟩ := draw_ok (L := 2) hl (by decide) (by decide) t
    have hd : F__law_draw [scD ns, .int 2] ws = .ok (iD d, ws') := hd
    refine ⟨_, by simp; rfl, ?_⟩
    by_cases hz : d = 0
    · exact .inr ⟨ws', iD x, ws', by simp [cC__law_pairs_1, hd, hz], by simp [cE__law_pairs_1], rfl, t'⟩
    · exact .inl ⟨ws', by simp [cC__law_pairs_1, hd, show ¬ d = 0 from hz], t'⟩)
  have hys : ys.map (·.2) = (ys.map (·.1)).map iD := by
    rw [List.map_map]
    exact List.map_congr_left fun y hy => c3 y hy
  rw [hys] at c1
  generalize ys.map (·.1) = sub at c1 c2
  have hsub : ∃ (sub2 : List Nat) (ws2 : List Dt), sub2 ≠ [] ∧ sub2.length ≤ 5 ∧ (∀ x ∈ sub2, x < n) ∧ sub2.Pairwise (· < ·) ∧ Tn ns (m + 5) ws2 ∧
      sIf (bOf (eBin eqD (eVar 4) (eFrz (lLst aNil)))) (sAsg 4 (eFrz (lLst (aCons (eCallT 1 F__law_draw (eVar 0) 1 (aCons (eVar 2) aNil)) aNil)))) sPass [some (.d (scD ns)), some .town, some (.d (iD n)), some (.d (.list (nums.map iD))), some (.d (.list (sub.map iD))), none] (some ws1) = .nx [some (.d (scD ns)), some .town, some (.d (iD n)), some (.d (.list (nums.map iD))), some (.d (.list (sub2.map iD))), none] (some ws2) := by
    have hnil := eqD_nil (ds := sub.map iD) (k := 1) (flts_map fun _ _ => rfl) (by decide)
    by_cases hs : sub = []
    · subst hs
      obtain ⟨d, ws', hd, hd2, t'⟩ := draw_ok (L := n) (m := m + 5) hl (by omega) (by
        have : (5 : Nat) < 2 ^ 64 := by decide
        omega) (c4.mono (by omega))
      refine ⟨[d], ws', by simp, by simp, by simpa using hd2, by simp, t', ?_⟩
      simp at hnil
      simp [hnil, hd]
    · refine ⟨sub, ws1, hs, ?_, fun x hx => List.mem_range.mp (c2.subset hx), List.Pairwise.sublist c2 List.pairwise_lt_range, c4.mono (by omega), ?_⟩
      · have := c2.length_le
        rw [List.length_range] at this
        omega
      · have : (sub.map iD).isEmpty = false := by cases sub with
          | nil => exact absurd rfl hs
          | cons _ _ => rfl
        rw [this] at hnil
        rw [sIf_s, bOf_s, eBin_s]
        simp only [eVar_s, eFrz_s, lLst_s, aNil_s]
        simp [hnil]
  obtain ⟨sub2, ws2, s1, s2, s3, s4, s5, s6⟩ := hsub
  obtain ⟨zs, ws3, d1, d2, d3, d4⟩ := cL_tw1 (ns := ns) (g := gN 5) (e := cE__law_pairs_2) (ρ0 := [some (.d (scD ns)), some .town, some (.d (iD n)), some (.d (.list (nums.map iD))), some (.d (.list (sub2.map iD))), none]) iD 1 (fun x v => ∃ p ∈ nums, v = pr (x, p)) sub2 m ws2 (s5.mono (by omega)) (by
    intro x hx m ws t
    obtain ⟨v, ws', hv, hv2, t'⟩ := pick_nat hl h0 h1 t
    refine ⟨_, pr (x, v), ws', by simp; rfl, ?_, ⟨v, hv2, rfl⟩, t'⟩
    simp [cE__law_pairs_2, hv]
    rfl)
  have hex : ∃ ps : List (Nat × Nat), zs.map (·.2) = ps.map pr ∧ ps.map (·.1) = sub2 ∧ ∀ p ∈ ps, p.2 ∈ nums := by
    subst d2
    clear d1 s6 s4 s3 s2 s1
    induction zs with
    | nil => exact ⟨[], rfl, rfl, fun p hp => by cases hp⟩
    | cons z zs ih =>
      obtain ⟨ps, q1, q2, q3⟩ := ih fun y hy => d3 y (List.mem_cons_of_mem _ hy)
      obtain ⟨p, hp, e⟩ := d3 z (by simp)
      refine ⟨(z.1, p) :: ps, by rw [List.map_cons, List.map_cons, q1, e], by rw [List.map_cons, List.map_cons, q2], fun r hr => ?_⟩
      rcases List.mem_cons.mp hr with y | y
      · rw [y]; exact hp
      · exact q3 r y
  obtain ⟨ps, q1, q2, q3⟩ := hex
  refine ⟨ps, ws3, ?_, ?_, ⟨fun p hp => ?_, ?_⟩, d4⟩
  · rw [q1] at d1
    unfold F__law_pairs
    simp only [B__law_pairs]
    have e1 : sAsg 4 (eFrz (lComp (iRng (aCons (eVar 2) aNil)) (gN 5) cC__law_pairs_1 cE__law_pairs_1 [5])) [some (.d (scD ns)), some .town, some (.d (iD n)), some (.d (.list (nums.map iD))), none, none] (some ws) = .nx [some (.d (scD ns)), some .town, some (.d (iD n)), some (.d (.list (nums.map iD))), some (.d (.list (sub.map iD))), none] (some ws1) := by
      have hr := rngOf_n (n := n) (by omega)
      simp [hr, wipeOk, show n ≤ 100000 by omega, c1]
    have e0 : startT 6 [scD ns, iD n, .list (nums.map iD)] = [some (.d (scD ns)), some .town, some (.d (iD n)), some (.d (.list (nums.map iD))), none, none] := rfl
    rw [runT_s, e0, sSeq_s, e1]
    simp only
    rw [sSeq_s, s6]
    simp [wipeOk, show sub2.length ≤ 100000 by omega, d1]
    rfl
  · intro z
    subst z
    exact s1 q2.symm
  · have hm := q3 p hp
    exact ⟨s3 p.1 (by rw [← q2]; exact List.mem_map.mpr ⟨p, hp, rfl⟩), hM p.2 hm⟩
  · rw [← q2, List.pairwise_map] at s4
    exact s4
end
end Sx

namespace Sx
open PySem PySem.Spec PyProof.Rows L2 Mx
section
variable {ns : List Int}
theorem rung_loop {n kk m : Nat} {fz : Int} {w : List (Nat × Nat)} {ws : List Dt} (hl : ns.length ≤ 63) (hw : ∀ p ∈ w, 1 ≤ p.2 ∧ p.2 ≤ 20) (hlen : w.length ≤ 5) (t : Tn ns (m + 2 * w.length) ws) :
    ∃ (cs : List (Nat × Nat)) (a b : Option SV) (ws' : List Dt), fL (gTu 2 (gsCons (gN 7) (gsCons (gN 8) gsNil))) lB__law_rung_1 (w.map pr) [some (.d (scD ns)), some .town, some (.d (iD n)), some (.d (iD kk)), some (.d (prs w)), some (.d (.int fz)), some (.own []), none, none] (some ws) = .nx [some (.d (scD ns)), some .town, some (.d (iD n)), some (.d (iD kk)), some (.d (prs w)), some (.d (.int fz)), some (.own (cs.map pr)), a, b] (some ws') ∧
      (cs.map (·.1)).Sublist (w.map (·.1)) ∧ (∀ p ∈ cs, 1 ≤ p.2 ∧ p.2 ≤ 999 ∧ (p.1 : Int) ≠ fz) ∧ Tn ns m ws' := by
  have key := fL_tw (ns := ns) (g := gTu 2 (gsCons (gN 7) (gsCons (gN 8) gsNil))) (body := lB__law_rung_1) pr 2
    (fun pre ρ => ∃ cs a b, ρ = [some (.d (scD ns)), some .town, some (.d (iD n)), some (.d (iD kk)), some (.d (prs w)), some (.d (.int fz)), some (.own (cs.map pr)), a, b] ∧ (cs.map (·.1)).Sublist (pre.map (·.1)) ∧ (∀ p ∈ cs, 1 ≤ p.2 ∧ p.2 ≤ 999 ∧ (p.1 : Int) ≠ fz)) w (by
      rintro pre x post ρ m ws e ⟨cs, a, b, rfl, hsub, hcs⟩ t
      have hx : x ∈ w := by rw [e]; simp
      obtain ⟨hx1, hx2⟩ := hw x hx
      have hcl : cs.length ≤ 5 := by
        have h1 := hsub.length_le
        rw [List.length_map, List.length_map] at h1
        have h2 : pre.length ≤ w.length := by rw [e, List.length_append]; omega
        omega
      have hsub2 : (cs.map (·.1)).Sublist ((pre ++ [x]).map (·.1)) := by
        rw [List.map_append]
        exact hsub.trans (List.sublist_append_left _ _)
      have hg : gTu 2 (gsCons (gN 7) (gsCons (gN 8) gsNil)) (pr x) [some (.d (scD ns)), some .town, some (.d (iD n)), some (.d (iD kk)), some (.d (prs w)), some (.d (.int fz)), some (.own (cs.map pr)), a, b] = some [some (.d (scD ns)), some .town, some (.d (iD n)), some (.d (iD kk)), some (.d (prs w)), some (.d (.int fz)), some (.own (cs.map pr)), some (.d (iD x.1)), some (.d (iD x.2))] := by simp
      by_cases hf : (x.1 : Int) = fz
      · refine ⟨_, [some (.d (scD ns)), some .town, some (.d (iD n)), some (.d (iD kk)), some (.d (prs w)), some (.d (.int fz)), some (.own (cs.map pr)), some (.d (iD x.1)), some (.d (iD x.2))], ws, hg, ?_, ⟨cs, _, _, rfl, hsub2, hcs⟩, t.mono (by omega)⟩
        simp [lB__law_rung_1, hf]
      · obtain ⟨d, ws1, hd, hd2, t1⟩ := draw_ok (L := 4) (m := m + 1) hl (by decide) (by decide) t
        have hd : F__law_draw [scD ns, .int 4] ws = .ok (iD d, ws1) := hd
        by_cases hz : d = 0
        · refine ⟨_, [some (.d (scD ns)), some .town, some (.d (iD n)), some (.d (iD kk)), some (.d (prs w)), some (.d (.int fz)), some (.own (cs.map pr)), some (.d (iD x.1)), some (.d (iD x.2))], ws1, hg, ?_, ⟨cs, _, _, rfl, hsub2, hcs⟩, t1.mono (by omega)⟩
          simp [lB__law_rung_1, hf, hd, hz]
        · obtain ⟨v, ws2, hv, hv2, t2⟩ := pick_nat (nums := [1, 2, 3, 5, 10, 20, 5 * x.2]) hl (by simp) (by simp) t1
          have hm : mulOk 5 (x.2 : Int) = true := mulOk_of (j := 3) (k := 5) (by decide) (by rw [Int.natAbs_natCast]; omega) (by decide)
          have hvv : 1 ≤ v ∧ v ≤ 999 := by
            simp at hv2
            omega
          have hv : F__law_pick [scD ns, .list [.int 1, .int 2, .int 3, .int 5, .int 10, .int 20, .int (5 * (x.2 : Int))]] ws1 = .ok (iD v, ws2) := by
            have e : ([1, 2, 3, 5, 10, 20, 5 * x.2] : List Nat).map iD = [.int 1, .int 2, .int 3, .int 5, .int 10, .int 20, .int (5 * (x.2 : Int))] := by simp [iD]
            rw [e] at hv
            exact hv
          refine ⟨_, [some (.d (scD ns)), some .town, some (.d (iD n)), some (.d (iD kk)), some (.d (prs w)), some (.d (.int fz)), some (.own ((cs ++ [(x.1, v)]).map pr)), some (.d (iD x.1)), some (.d (iD x.2))], ws2, hg, ?_, ⟨cs ++ [(x.1, v)], _, _, rfl, ?_, ?_⟩, t2⟩
          · have hlt : (cs.map pr).length < 100000 := by rw [List.length_map]; omega
            have hdp : (0 : Int) < (d : Int) := by omega
            simp only [lB__law_rung_1]
            simp [hf, hd, hdp, hm, hv, show 0 < d by omega, show cs.length < 100000 by omega]
            rfl
          · rw [List.map_append, List.map_append]
            exact hsub.append (List.Sublist.refl _)
          · intro p hp
            rcases List.mem_append.mp hp with z | z
            · exact hcs p z
            · rw [List.mem_singleton.mp z]
              exact ⟨hvv.1, hvv.2, hf⟩) w [] [some (.d (scD ns)), some .town, some (.d (iD n)), some (.d (iD kk)), some (.d (prs w)), some (.d (.int fz)), some (.own []), none, none] m ws rfl ⟨[], none, none, rfl, .slnil, fun p hp => by cases hp⟩ t
  obtain ⟨ρ', ws', h1, ⟨cs, a, b, rfl, h2, h3⟩, t'⟩ := key
  exact ⟨cs, a, b, ws', h1, h2, h3, t'⟩
theorem rung_draw {n m kk : Nat} {ws : List Dt} (hl : ns.length ≤ 63) (hn1 : 1 ≤ n) (hn : n ≤ 5) (hk : kk ≤ 2) (t : Tn ns (m + 22) ws) :
    ∃ (r : Rung) (ws' : List Dt), F__law_rung [scD ns, iD n, iD kk] ws = .ok (rd r, ws') ∧ r.Ok n ∧ (kk = 2 → r.endless = true) ∧ Tn ns m ws' := by
  by_cases h0 : kk = 0
  · subst h0
    obtain ⟨ps, ws', h1, h2, h3, t'⟩ := pairs_ok (M := 999) (nums := [1, 2, 3, 5, 10, 20, 100, 999]) (m := m) hl hn1 hn (by decide) (by decide) (by decide) (t.mono (by omega))
    refine ⟨.fixed ps, ws', ?_, ⟨h2, h3⟩, fun z => (by cases z), t'⟩
    have h1 : F__law_pairs [scD ns, .int (n : Int), .list [.int 1, .int 2, .int 3, .int 5, .int 10, .int 20, .int 100, .int 999]] ws = .ok (prs ps, ws') := h1
    unfold F__law_rung
    simp only [B__law_rung]
    simp [h1, rd]
  · obtain ⟨w, ws1, h1, h2, h3, t1⟩ := pairs_ok (M := 20) (nums := [1, 1, 2, 3, 4, 20]) (m := m + 11) hl hn1 hn (by decide) (by decide) (by decide) (t.mono (by omega))
    have h1 : F__law_pairs [scD ns, .int (n : Int), .list [.int 1, .int 1, .int 2, .int 3, .int 4, .int 20]] ws = .ok (prs w, ws1) := h1
    have hlw := pok_len h3
    have hfree : ∃ (fz : Int) (ws2 : List Dt), eIf (bOf (eBin eqD (eVar 3) (eC (.int 2)))) (eBin ixD (eCallT 1 F__law_pick (eVar 0) 1 (aCons (eVar 4) aNil)) (eC (.int 0))) (eUn negD (eC (.int 1))) [some (.d (scD ns)), some .town, some (.d (iD n)), some (.d (iD kk)), some (.d (prs w)), none, none, none, none] (some ws1) = .ok (.int fz, some ws2) ∧ (kk = 2 → ∃ p ∈ w, fz = (p.1 : Int)) ∧ Tn ns (m + 10) ws2 := by
      by_cases hk2 : kk = 2
      · subst hk2
        obtain ⟨v, ws2, hv, hv2, t2⟩ := pick_ok (k := false) (cs := w.map pr) (m := m + 10) hl (by rw [List.length_map]; exact List.length_pos_iff.mpr h2) (by rw [List.length_map]; omega) t1
        obtain ⟨p, hp, rfl⟩ := List.mem_map.mp hv2
        have hv : F__law_pick [scD ns, prs w] ws1 = .ok (pr p, ws2) := hv
        exact ⟨(p.1 : Int), ws2, by simp [hv], fun _ => ⟨p, hp, rfl⟩, t2⟩
      · exact ⟨-1, ws1, by simp [show ¬ (kk : Int) = 2 by omega], fun z => absurd z hk2, t1.mono (by omega)⟩
    obtain ⟨fz, ws2, f1, f2, t2⟩ := hfree
    obtain ⟨cs, a, b, ws3, l1, l2, l3, t3⟩ := rung_loop (n := n) (kk := kk) (m := m) (fz := fz) hl (fun p hp => (h3.el p hp).2) (by omega) (t2.mono (by omega))
    have hkey : ∀ p ∈ cs, ∃ q ∈ w, q.1 = p.1 := fun p hp => by
      have := l2.subset (List.mem_map.mpr ⟨p, hp, rfl⟩)
      obtain ⟨q, hq, e⟩ := List.mem_map.mp this
      exact ⟨q, hq, e⟩
    have hpk : POk n 999 cs := ⟨fun p hp => by
      obtain ⟨q, hq, e⟩ := hkey p hp
      exact ⟨by rw [← e]; exact (h3.el q hq).1, (l3 p hp).1, (l3 p hp).2.1⟩, by
      have := List.Pairwise.sublist l2 (List.pairwise_map.mpr h3.inc)
      exact List.pairwise_map.mp this⟩
    have hok : (Rung.shares w cs).Ok n := ⟨h2, h3, hpk, hkey⟩
    refine ⟨.shares w cs, ws3, ?_, hok, fun z => ?_, t3⟩
    · unfold F__law_rung
      simp only [B__law_rung]
      have e0 : startT 9 [scD ns, iD n, iD kk] = [some (.d (scD ns)), some .town, some (.d (iD n)), some (.d (iD kk)), none, none, none, none, none] := rfl
      have hkz : ¬ (kk : Int) = 0 := by omega
      rw [runT_s, e0]
      simp only [sSeq_s]
      rw [show sIf (bOf (eBin eqD (eVar 3) (eC (.int 0)))) (sRet (eTup (aCons (eC (.str "fixed")) (aCons (eCallT 2 F__law_pairs (eVar 0) 1 (aCons (eVar 2) (aCons (eFrz (lLst (aCons (eC (.int 1)) (aCons (eC (.int 2)) (aCons (eC (.int 3)) (aCons (eC (.int 5)) (aCons (eC (.int 10)) (aCons (eC (.int 20)) (aCons (eC (.int 100)) (aCons (eC (.int 999)) aNil)))))))))) aNil))) aNil)))) sPass [some (.d (scD ns)), some .town, some (.d (iD n)), some (.d (iD kk)), none, none, none, none, none] (some ws) = .nx [some (.d (scD ns)), some .town, some (.d (iD n)), some (.d (iD kk)), none, none, none, none, none] (some ws) by simp [h0]]
      simp only
      rw [show sAsg 4 (eCallT 2 F__law_pairs (eVar 0) 1 (aCons (eVar 2) (aCons (eFrz (lLst (aCons (eC (.int 1)) (aCons (eC (.int 1)) (aCons (eC (.int 2)) (aCons (eC (.int 3)) (aCons (eC (.int 4)) (aCons (eC (.int 20)) aNil)))))))) aNil))) [some (.d (scD ns)), some .town, some (.d (iD n)), some (.d (iD kk)), none, none, none, none, none] (some ws) = .nx [some (.d (scD ns)), some .town, some (.d (iD n)), some (.d (iD kk)), some (.d (prs w)), none, none, none, none] (some ws1) by simp [h1]]
      simp only
      rw [sAsg_s, f1]
      simp [l1, rd]
      rfl
    · obtain ⟨p, hp, e⟩ := f2 z
      refine decide_eq_true ((endless_iff hok).mpr ⟨p, hp, lk_none.mpr fun q hq e2 => (l3 q hq).2.2 ?_⟩)
      rw [e]; omega
theorem ladder_ok {most m : Nat} {ws : List Dt} (hl : ns.length ≤ 63) (h1 : 1 ≤ most) (h5 : most ≤ 5) (t : Tn ns (m + 100) ws) :
    ∃ (l : Lad) (ws' : List Dt), F__law_ladder [scD ns, iD most] ws = .ok (ld l, ws') ∧ l.Ok ∧ l.n ≤ most ∧ Tn ns m ws' := by
  obtain ⟨d, ws1, hd, hd2, t1⟩ := draw_ok (L := most) (m := m + 99) hl (by omega) (Nat.lt_of_le_of_lt h5 (by decide)) t
  obtain ⟨e, ws2, he, he2, t2⟩ := draw_ok (L := 4) (m := m + 98) hl (by decide) (by decide) t1
  have he : F__law_draw [scD ns, .int 4] ws1 = .ok (iD e, ws2) := he
  obtain ⟨n, hn⟩ : ∃ n, n = 1 + d := ⟨_, rfl⟩
  have hnD : (1 : Int) + (d : Int) = (n : Int) := by omega
  obtain ⟨ys, ws3, c1, c2, c3, c4⟩ := cL_tw1 (ns := ns) (g := gN 5) (e := cE__law_ladder_1) (ρ0 := [some (.d (scD ns)), some .town, some (.d (iD most)), some (.d (iD n)), none, none]) iD 23 (fun x v => ∃ r : Rung, v = rd r ∧ r.Ok n) (List.range e) (m + 22) ws2 (t2.mono (by simp; omega)) (by
    intro x hx m ws t
    obtain ⟨k, w1, q1, q2, t3⟩ := draw_ok (L := 2) (m := m + 22) hl (by decide) (by decide) t
    have q1 : F__law_draw [scD ns, .int 2] ws = .ok (iD k, w1) := q1
    obtain ⟨r, w2, r1, r2, _, t4⟩ := rung_draw (n := n) (kk := k) hl (by omega) (by omega) (by omega) t3
    refine ⟨_, rd r, w2, by simp; rfl, ?_, ⟨r, rfl, r2⟩, t4⟩
    simp [cE__law_ladder_1, q1, r1])
  obtain ⟨r, ws4, r1, r2, r3, t4⟩ := rung_draw (n := n) (kk := 2) (m := m) hl (by omega) (by omega) (by omega) c4
  have r1 : F__law_rung [scD ns, .int (n : Int), .int 2] ws3 = .ok (rd r, ws4) := r1
  have hex : ∃ rs : List Rung, ys.map (·.2) = rs.map rd ∧ rs.length = ys.length ∧ ∀ q ∈ rs, q.Ok n := by
    clear c1 c2
    induction ys with
    | nil => exact ⟨[], rfl, rfl, fun p hp => by cases hp⟩
    | cons z zs ih =>
      obtain ⟨rs, q1, q2, q3⟩ := ih fun y hy => c3 y (List.mem_cons_of_mem _ hy)
      obtain ⟨q, e, hq⟩ := c3 z (by simp)
      refine ⟨q :: rs, by rw [List.map_cons, List.map_cons, q1, e], by rw [List.length_cons, List.length_cons, q2], fun r hr => ?_⟩
      rcases List.mem_cons.mp hr with y | y
      · rw [y]; exact hq
      · exact q3 r y
  obtain ⟨rs, q1, q2, q3⟩ := hex
  have hlen : rs.length ≤ 3 := by
    have := congrArg List.length c2
    rw [List.length_map, List.length_range] at this
    omega
  rw [q1] at c1
  refine ⟨⟨n, rs ++ [r]⟩, ws4, ?_, ⟨by show 1 ≤ n; omega, by show n ≤ 5; omega, by simp, by simp; omega, fun q hq => ?_, r, by simp, r3 rfl⟩, by show n ≤ most; omega, t4⟩
  · have hadd : addD (.tuple (rs.map rd)) (.tuple [rd r]) = some (.tuple ((rs ++ [r]).map rd)) := by
      show (if (rs.map rd).length + [rd r].length ≤ 100000 then some (PyData.tuple (rs.map rd ++ [rd r])) else none) = _
      rw [if_pos (by simp; omega), List.map_append]; rfl
    unfold F__law_ladder
    simp only [B__law_ladder]
    have hr := rngOf_n (n := e) (by omega)
    simp [hd, hnD, he, hr, wipeOk, show e ≤ 100000 by omega, c1, r1, hadd, ld]
  · rcases List.mem_append.mp hq with z | z
    · exact q3 q z
    · rw [List.mem_singleton.mp z]; exact r2
end
end Sx

namespace Mx
end Mx
namespace Sx
open PySem PySem.Spec PyProof.Rows L2 Mx
@[simp] theorem shaped_bool {b : Bool} : SeqAt.shaped (.bool b) = true := shaped_flt (k := 0) rfl (by decide)
@[simp] theorem eqD_b {a b : Bool} : eqD (.bool a) (.bool b) = some (.bool (a == b)) := by
  cases a <;> cases b <;> rfl
@[simp] theorem neD_b {a b : Bool} : neD (.bool a) (.bool b) = some (.bool (!(a == b))) := by
  cases a <;> cases b <;> rfl
@[simp] theorem addD_ll {a b : List Dt} : addD (.list a) (.list b) = if a.length + b.length ≤ 100000 then some (.list (a ++ b)) else none := rfl
@[simp] theorem addD_tt {a b : List Dt} : addD (.tuple a) (.tuple b) = if a.length + b.length ≤ 100000 then some (.tuple (a ++ b)) else none := rfl
end Sx

namespace Mx
/-! signs of a difference, directly after an amount -/
def sgn (q : Rat) : Int := if 0 < q then 1 else if q < 0 then -1 else 0
/-- the sign directly after an amount -/
def RS (D : Rat → Rat) (x : Rat) (s : Int) : Prop := ∃ e, x < e ∧ ∀ y, x < y → y < e → sgn (D y) = s
/-! lists of signs -/
end Mx

namespace Mx
/-! what lists of signs say -/
/-! where two ladders part -/
def PT (D : Nat → Rat → Rat) (n : Nat) : Option Rat → Prop
  | none => ∀ h, h < n → ∀ x, 0 ≤ x → RS (D h) x 0
  | some t => 0 ≤ t ∧ (∀ h, h < n → ∀ x, 0 ≤ x → x < t → RS (D h) x 0) ∧ ∃ h, h < n ∧ ∃ s, s ≠ 0 ∧ RS (D h) t s
end Mx

namespace Sx
open PySem PySem.Spec PyProof.Rows L2 Mx
/-! slices -/
@[simp] theorem slice_l {ds : List Dt} {lo hi} : sliceD (.list ds) lo hi = some (.list (cutD ds lo hi)) := rfl
@[simp] theorem slice_t {ds : List Dt} {lo hi} : sliceD (.tuple ds) lo hi = some (.tuple (cutD ds lo hi)) := rfl
/-! signs -/
@[simp] theorem intD_b {b : Bool} : intD [.bool b] = some (.int (if b then 1 else 0)) := rfl
/-! the rate after an amount, by rows -/
/-! in order -/
end Sx

namespace Mx
/-! of two ladders -/
abbrev DD (l1 l2 : Lad) (h : Nat) (x : Rat) : Rat := l2.T x h - l1.T x h
end Mx
namespace Sx
open PySem PySem.Spec PyProof.Rows L2 Mx
@[simp] theorem isD_tt : isD (.bool true) (.bool true) = some (.bool true) := by rfl
/-! points between starts -/
def trip (s a : Rat) : List Rat := [s + (a - s) * 0, s + (a - s) * mkRat 1 3, s + (a - s) * mkRat 1 2]
end Sx

namespace Mx
end Mx
namespace Sx
open PySem PySem.Spec PyProof.Rows L2 Mx
@[simp] theorem ix_tup' {n h : Nat} {f : Nat → Rat} (hh : h < n) : ixD (.tuple (rtL n f)) (.int (h : Int)) = some (fr (f h)) := ix_rtL hh
/-! neighbouring marks -/
end Sx

namespace Mx
end Mx
namespace Sx
open PySem PySem.Spec PyProof.Rows L2 Mx
/-- comprehension, one step -/
theorem cL_yes {g : SG} {c : SB} {e : SE} {ρ0 ρ1 : Sl} {d v : Dt} {ds zs : List Dt} {W W1 W2 W3 : Tw} (h1 : g d ρ0 = some ρ1) (h2 : c ρ1 W = .ok (true, W1)) (h3 : e ρ1 W1 = .ok (v, W2)) (h4 : cL g c e ρ0 ds W2 = .ok (zs, W3)) : cL g c e ρ0 (d :: ds) W = .ok (v :: zs, W3) := by
  unfold cL
  rw [h1]
  simp only [h2]
  show Res.bind (nox (.ok (true, W1))) _ = _
  simp only [nox, Res.bind_ok, if_true, h3, h4]
end Sx

namespace Mx
/-! what each rung pays, piece by piece -/
theorem set_self {α : Type} {l : List α} {i : Nat} {a : α} (h : l[i]? = some a) : l.set i a = l := by
  refine List.ext_getElem? fun j => ?_
  by_cases hj : i = j
  · subst hj
    rw [List.getElem?_set_self (List.getElem?_eq_some_iff.mp h).1, h]
  · rw [List.getElem?_set_ne hj]
end Mx
namespace Sx
open PySem PySem.Spec PyProof.Rows L2 Mx
section
variable {ρ : Sl} {W : Tw} {i : Nat} {e k l : SE}
end
end Sx

namespace Mx
/-! ### simple ladders with options: the ladder with a choice -/
structure Smp where
  n : Nat
  fs : List (List (Nat × Nat))
  w : List (Nat × Nat)
  c : List (Nat × Nat)
  os : List (Nat × Nat)
section
variable {s : Smp}
end
end Mx

namespace Sx
open PySem PySem.Spec PyProof.Rows L2 Mx
/-! evaluation of what Sx18 to Sx22 bring -/
section
variable {ρ : Sl} {W : Tw} {i : Nat} {k e fk fz : SE} {x : Dt}
@[simp] theorem get2D_i {kvs} {k : Int} {z : Dt} : get2D kvs (.int k) z = some ((valD kvs k).getD z) := rfl
@[simp] theorem sDput_s : sDput i k e ρ W = (match ρ[i]? with
  | some (some (.dk kvs)) => rOut (e ρ W) fun d W1 => rOut (k ρ W1) fun kd W2 => nxK i kvs kd d ρ W2
  | _ => .bad) := rfl
@[simp] theorem nxK_i {kvs} {k : Int} {d : Dt} : nxK i kvs (.int k) d ρ W = if kvs.length < 100000 then .nx (ρ.set i (some (.dk (putD kvs k d)))) W else .bad := rfl
@[simp] theorem sTput_s : sTput i k e ρ W = (match ρ[i]? with
  | some (some (.tb kvs)) => rOut (e ρ W) fun d W1 => rOut (k ρ W1) fun kd W2 => nxTb i kvs kd d ρ W2
  | _ => .bad) := rfl
end
/-! choices -/
theorem neD_nilT {ds : List Dt} {k : Nat} (h : flts k ds = true) (hk : k ≤ 60) : neD (.tuple ds) (.tuple []) = some (.bool (!ds.isEmpty)) := by
  unfold neD
  rw [shaped_flt (d := .tuple ds) (k := k + 1) h (by omega)]
  cases ds <;> rfl
end Sx

namespace Sx
open PySem PySem.Spec PyProof.Rows L2 Mx
section
variable {s : Smp} {ch : List Nat}
@[simp] theorem gTu_fixed {f : List (Nat × Nat)} {gs : SGs} {ρ : Sl} : gTu 2 gs (rd (.fixed f)) ρ = gs [.str "fixed", prs f] ρ := by rfl
@[simp] theorem gTu_shares {w c : List (Nat × Nat)} {gs : SGs} {ρ : Sl} : gTu 3 gs (rd (.shares w c)) ρ = gs [.str "shares", prs w, prs c] ρ := by rfl
end
end Sx

namespace Sx
open PySem PySem.Spec PyProof.Rows L2 Mx
section
variable {s : Smp} {ch : List Nat}
@[simp] theorem mulD_l0 {x : Dt} : mulD (.list [x]) (.int 0) = some (.list []) := by rfl
@[simp] theorem mulD_l1 {x : Dt} : mulD (.list [x]) (.int 1) = some (.list [x]) := by rfl
end
end Sx

namespace Mx
/-! ### all choices -/
end Mx
namespace Sx
open PySem PySem.Spec PyProof.Rows L2 Mx
@[simp] theorem ne_fixed : neD (.str "fixed") (.str "fixed") = some (.bool false) := neD_str (k := true) (by decide +kernel) (by decide +kernel) (by decide +kernel)
section
variable {s : Smp} {ch : List Nat}
end
end Sx

namespace Sx
open PySem PySem.Spec PyProof.Rows L2 Mx
/-! data that is equal to itself, with texts -/
def Gq (k : Nat) (d : Dt) : Prop := d.canLay0 = true ∧ d.depth ≤ k ∧ PyData.eqv d d = true
def Gqs (k : Nat) (ds : List Dt) : Prop := PyData.canLayAll0 ds = true ∧ PyData.depthAll ds ≤ k ∧ PyData.eqvAll ds ds = true
theorem Gqs.nil {k : Nat} : Gqs k [] := ⟨rfl, Nat.zero_le _, rfl⟩
theorem Gqs.cons {k : Nat} {d : Dt} {ds : List Dt} (h : Gq k d) (t : Gqs k ds) : Gqs k (d :: ds) :=
  ⟨by show (PyData.canLay0 d && PyData.canLayAll0 ds) = true; rw [h.1, t.1]; rfl, Nat.max_le.mpr ⟨h.2.1, t.2.1⟩, by
    show (PyData.eqv d d && PyData.eqvAll ds ds) = true
    rw [h.2.2, t.2.2]; rfl⟩
theorem Gq.tup {k : Nat} {ds : List Dt} (h : Gqs k ds) : Gq (k + 1) (.tuple ds) := ⟨h.1, Nat.succ_le_succ h.2.1, h.2.2⟩
theorem Gq.lst {k : Nat} {ds : List Dt} (h : Gqs k ds) : Gq (k + 1) (.list ds) := ⟨h.1, Nat.succ_le_succ h.2.1, h.2.2⟩
theorem Gqs.map {α : Type} {k : Nat} {f : α → Dt} : ∀ {xs : List α}, (∀ x ∈ xs, Gq k (f x)) → Gqs k (xs.map f)
  | [], _ => .nil
  | x :: xs, h => .cons (h x (by simp)) (Gqs.map fun y hy => h y (List.mem_cons_of_mem _ hy))
theorem Gq.flt {k : Nat} {d : Dt} (h : flt k d = true) : Gq k d := ⟨(flt_ok d k h).1, (flt_ok d k h).2, eqv_refl d k h⟩
theorem Gq.int {k : Nat} {i : Int} : Gq k (.int i) := .flt (by cases k <;> rfl)
theorem Gq.fixed {k : Nat} : Gq k (.str "fixed") := ⟨by decide +kernel, Nat.zero_le _, by decide +kernel⟩
theorem Gq.shares {k : Nat} : Gq k (.str "shares") := ⟨by decide +kernel, Nat.zero_le _, by decide +kernel⟩
theorem Gq.prs {k : Nat} {ps : List (Nat × Nat)} : Gq (k + 2) (prs ps) := .tup (.map fun p _ => .flt flt_pr)
theorem Gq.rd {k : Nat} {r : Rung} : Gq (k + 3) (rd r) := by
  cases r with
  | fixed s => exact .tup (.cons .fixed (.cons .prs .nil))
  | shares w c => exact .tup (.cons .shares (.cons .prs (.cons .prs .nil)))
theorem Gq.ld {k : Nat} {l : Lad} : Gq (k + 5) (ld l) := .tup (.cons .int (.cons (.tup (.map fun r _ => .rd)) .nil))
theorem Gq.sh {k : Nat} {d : Dt} (h : Gq k d) (hk : k ≤ 64) : SeqAt.shaped d = true := by
  unfold SeqAt.shaped
  rw [h.1, decide_eq_true (Nat.le_trans h.2.1 hk)]; rfl
theorem Gq.ne {k : Nat} {d : Dt} (h : Gq k d) (hk : k ≤ 64) : neD d d = some (.bool false) := by
  unfold neD
  rw [h.sh hk, h.2.2]; rfl
theorem Gq.eq {k : Nat} {d : Dt} (h : Gq k d) (hk : k ≤ 64) : eqD d d = some (.bool true) := by
  unfold eqD
  rw [h.sh hk, h.2.2]; rfl
end Sx

namespace Mx
/-! ### a ladder of fixed rungs and shares without caps, for great amounts -/
def hv (h : Nat) (f : List (Nat × Nat)) : Nat := (lk f h).getD 0
def hsum (h : Nat) (fs : List (List (Nat × Nat))) : Nat := (fs.map (hv h)).sum
/-! sums -/
section
variable {n h u : Nat} {fs : List (List (Nat × Nat))} {w : List (Nat × Nat)}
end
/-! the edge, as plain numbers -/
section
variable {O F A B t e y : Rat}
end
end Mx

namespace Mx
/-! ### known ladders: two pieces -/
section
variable {n w : Nat}
abbrev r2o (w : Nat) : Nat → Rat := rt [(0, 1), (1, w)] (wsum [(0, 1), (1, w)] : Rat)
theorem ws1 : wsum [(0, n)] = n := by show n + 0 = n; rfl
theorem ws2 : wsum [(0, 1), (1, w)] = w + 1 := by show 1 + (w + 0) = w + 1; omega
theorem r2_0 : r2o w 0 = 1 / ((w + 1 : Nat) : Rat) := by
  show ((1 : Nat) : Rat) / (wsum [(0, 1), (1, w)] : Rat) = _
  rw [ws2]; rfl
theorem r2_1 : r2o w 1 = (w : Rat) / ((w + 1 : Nat) : Rat) := by
  show (w : Rat) / (wsum [(0, 1), (1, w)] : Rat) = _
  rw [ws2]
/-- the parts: a + b = 1, both positive -/
theorem parts (hw : 1 ≤ w) : ∃ a b : Rat, r2o w 0 = a ∧ r2o w 1 = b ∧ a + b = 1 ∧ 0 < a ∧ 0 < b ∧ b = (w : Rat) * a ∧ a * ((w : Rat) + 1) = 1 := by
  have hp : (0 : Rat) < ((w + 1 : Nat) : Rat) := Rat.natCast_pos.mpr (by omega)
  have hv : (0 : Rat) < (w : Rat) := Rat.natCast_pos.mpr hw
  have h1 : (1 / ((w + 1 : Nat) : Rat)) * ((w + 1 : Nat) : Rat) = 1 := Rat.div_mul_cancel (by grind)
  have h2 : (w : Rat) / ((w + 1 : Nat) : Rat) = (w : Rat) * (1 / ((w + 1 : Nat) : Rat)) := by rw [Rat.div_def, Rat.div_def]; grind
  have h3 : (0 : Rat) < 1 / ((w + 1 : Nat) : Rat) := div_pos (by decide) hp
  refine ⟨_, _, r2_0, r2_1, ?_, h3, div_pos hv hp, h2, ?_⟩
  · rw [h2]
    rw [Rat.natCast_add] at h1 ⊢
    have : ((1 : Nat) : Rat) = 1 := rfl
    rw [this] at h1 ⊢
    grind
  · rw [Rat.natCast_add] at h1 ⊢
    have : ((1 : Nat) : Rat) = 1 := rfl
    rw [this] at h1 ⊢
    exact h1
/-! the cap -/
/-! one who may change -/
end
end Mx

namespace Sx
open PySem PySem.Spec PyProof.Rows L2

def B__law_name : SS :=
    (sSeq (sIf (bNot (bOf (eIsX 0 "ValueError"))) (sRet (eUn negD (eC (.int 1)))) sPass)
    (sSeq (sAsg 1 (eFrz (lLst (aCons (eIsX 0 "InvalidLadder") (aCons (eIsX 0 "InvalidHolder") aNil)))))
    (sSeq (sAsg 1 (eBin addD (eVar 1) (eFrz (lLst (aCons (eIsX 0 "InvalidAmount") (aCons (eIsX 0 "InvalidNumber") aNil))))))
    (sSeq (sAsg 1 (eBin addD (eVar 1) (eFrz (lLst (aCons (eIsX 0 "InvalidGoal") (aCons (eIsX 0 "InvalidOptions") aNil))))))
    (sSeq (sAsg 1 (eBin addD (eVar 1) (eFrz (lLst (aCons (eIsX 0 "InvalidChoice") (aCons (eIsX 0 "InvalidText") aNil))))))
    (sSeq (sAsg 1 (eBin addD (eVar 1) (eFrz (lLst (aCons (eIsX 0 "Unlike") (aCons (eIsX 0 "NotSimple") aNil))))))
    (sSeq (sAsg 1 (eBin addD (eVar 1) (eFrz (lLst (aCons (eIsX 0 "TooMany") (aCons (eIsX 0 "TooMuch") aNil))))))
    (sSeq (sAsg 1 (eBin addD (eVar 1) (eFrz (lLst (aCons (eIsX 0 "NothingToUndo") aNil)))))
    (sRet (eIf (bOf (eBin eqD (eMth cntD (eVar 1) (eC (.bool true))) (eC (.int 1)))) (eMth idxD (eVar 1) (eC (.bool true))) (eUn negD (eC (.int 1)))))))))))))
def F__law_name := runN 2 B__law_name

def B__law_raises : SS :=
    (sSeq (sAsg 1 (eFrz (lLst (aCons (eC (.str "ladder")) (aCons (eC (.str "holder")) (aCons (eC (.str "amount")) (aCons (eC (.str "number")) (aCons (eC (.str "goal")) (aCons (eC (.str "options")) (aCons (eC (.str "choice")) aNil))))))))))
    (sSeq (sAsg 1 (eBin addD (eVar 1) (eFrz (lLst (aCons (eC (.str "text")) (aCons (eC (.str "unlike")) (aCons (eC (.str "simple")) (aCons (eC (.str "many")) (aCons (eC (.str "much")) (aCons (eC (.str "undo")) aNil))))))))))
    (sRet (eTup (aCons (eC (.str "raised")) (aCons (eMth idxD (eVar 1) (eVar 0)) aNil))))))
def F__law_raises := runP 2 B__law_raises





def B_X_check_amount : SS :=
    (sIf (bNot (bOf (eCall 1 F_is_amount (aCons (eVar 0) aNil)))) (sRaise "InvalidAmount") sPass)
def F_X_check_amount := runP 1 B_X_check_amount

theorem le_X_check_amount : LeF F_check_amount F_X_check_amount := le_runP (by
    simp only [B_check_amount, B_X_check_amount]
    repeat' (first | exact LeS.refl _ | exact Le2.refl _ | exact le_never | assumption | apply le_seq | apply le_if | apply le_for | apply le_expr | apply le_ret | apply le_asgG | apply le_asg | apply le_own | apply le_app | apply le_tput | apply le_tup | apply le_frz | apply le_lst | apply le_cons | apply le_eif | apply le_seqI | apply le_call0 | apply le_call | apply le_bin | apply le_fz | apply le_cb))



def B_X_check_ladder : SS :=
    (sIf (bNot (bOf (eCall 1 F_is_ladder (aCons (eVar 0) aNil)))) (sRaise "InvalidLadder") sPass)
def F_X_check_ladder := runP 1 B_X_check_ladder

theorem le_X_check_ladder : LeF F_check_ladder F_X_check_ladder := le_runP (by
    simp only [B_check_ladder, B_X_check_ladder]
    repeat' (first | exact LeS.refl _ | exact Le2.refl _ | exact le_never | assumption | apply le_seq | apply le_if | apply le_for | apply le_expr | apply le_ret | apply le_asgG | apply le_asg | apply le_own | apply le_app | apply le_tput | apply le_tup | apply le_frz | apply le_lst | apply le_cons | apply le_eif | apply le_seqI | apply le_call0 | apply le_call | apply le_bin | apply le_fz | apply le_cb))



















end Sx

namespace Sx
open PySem PySem.Spec PyProof.Rows L2 Mx
@[simp] theorem rOut_exc {α : Type} {c : Str} {k : α → Tw → Out} : rOut (.exc c) k = .exc c := rfl
@[simp] theorem rOut_bad {α : Type} {k : α → Tw → Out} : rOut (.bad : Res (α × Tw)) k = .bad := rfl
@[simp] theorem sRaise_s {c : Str} {ρ : Sl} {W : Tw} : sRaise c ρ W = .exc c := rfl
theorem raised (n : Nat) : neD (.tuple [.str "raised", .int (n : Int)]) (.tuple [.str "raised", .int (n : Int)]) = some (.bool false) := Gq.ne (k := 2) (.tup (.cons ⟨by decide +kernel, Nat.zero_le _, by decide +kernel⟩ (.cons .int .nil))) (by decide)
theorem sSeq_nx {a b : SS} {ρ ρ1 ρ2 : Sl} {W W1 W2 : Tw} (h : a ρ W = .nx ρ1 W1) (k : b ρ1 W1 = .nx ρ2 W2) : sSeq a b ρ W = .nx ρ2 W2 := by
  rw [sSeq_s, h]; exact k
@[simp] theorem eCallX_s {n : Nat} {Fs : List Dt → Res Dt} {as : SA} {ρ : Sl} {W : Tw} : eCallX n Fs as ρ W = (as ρ W).bind fun p => if p.1.length = n then resX (Fs p.1) p.2 else .bad := rfl
@[simp] theorem resX_ok {α : Type} {r : α} {W : Tw} : resX (.ok r) W = .ok (r, W) := rfl
@[simp] theorem resX_exc {α : Type} {c : Str} {W : Tw} : resX (.exc c : Res α) W = .exc c := rfl
theorem fL_step {g : SG} {body : SS} {d : Dt} {ds : List Dt} {ρ ρ1 ρ2 : Sl} {W W2 : Tw} (hg : g d ρ = some ρ1) (hb : body ρ1 W = .nx ρ2 W2) : fL g body (d :: ds) ρ W = fL g body ds ρ2 W2 := by
  rw [fL_cons, hg]
  simp only
  rw [hb]
end Sx

namespace Sx
open PySem PySem.Spec PyProof.Rows L2

def cE_pairs_text_1 : SE :=
    (eFst (jE (eVar 1) (jE (eC (.str ":")) (jE (eVar 2) jNil))))
def B_pairs_text : SS :=
    (sRet (eTm joinD (eC (.str " ")) (eFrz (lComp (iSeq (eVar 0)) (gTu 2 (gsCons (gN 1) (gsCons (gN 2) gsNil))) bYes cE_pairs_text_1 [1, 2]))))
def F_pairs_text := runP 3 B_pairs_text

def cE_number_of_1 : SE :=
    (eBin inTD (eVar 1) (eC (.str "0123456789")))
def B_number_of : SS :=
    (sRet (eIf (bAnd (bOf (eChain leD leD (eC (.int 1)) (eCB lenD (aCons (eVar 0) aNil)) (eC (.int 3)))) (bOf (eCB allD (aCons (eFrz (lComp (iChr (eVar 0)) (gN 1) bYes cE_number_of_1 [1])) aNil)))) (eCB intTD (aCons (eVar 0) aNil)) (eUn negD (eC (.int 1)))))
def F_number_of := runP 2 B_number_of


def B_rung_text : SS :=
    (sSeq (sIf (bOf (eBin eqD (eBin ixD (eVar 0) (eC (.int 0))) (eC (.str "fixed")))) (sRet (eBin addD (eC (.str "f ")) (eCall 1 F_pairs_text (aCons (eBin ixD (eVar 0) (eC (.int 1))) aNil)))) sPass)
    (sSeq (sAsg 1 (eBin addD (eC (.str "s ")) (eCall 1 F_pairs_text (aCons (eBin ixD (eVar 0) (eC (.int 1))) aNil))))
    (sRet (eIf (bOf (eBin neD (eBin ixD (eVar 0) (eC (.int 2))) (eTup aNil))) (eBin addD (eBin addD (eVar 1) (eC (.str " up to "))) (eCall 1 F_pairs_text (aCons (eBin ixD (eVar 0) (eC (.int 2))) aNil))) (eVar 1)))))
def F_rung_text := runP 2 B_rung_text

def cE_read_pairs_2 : SE :=
    (eCall 1 F_number_of (aCons (eVar 2) aNil))
def cE_read_pairs_1 : SE :=
    (eCB tupleD (aCons (eFrz (lComp (iSeq (eFrz (lTm splitD (eVar 1) (eC (.str ":"))))) (gN 2) bYes cE_read_pairs_2 [2])) aNil))
def B_read_pairs : SS :=
    (sRet (eCB tupleD (aCons (eFrz (lComp (iSeq (eFrz (lTm splitD (eVar 0) (eC (.str " "))))) (gN 1) bYes cE_read_pairs_1 [1])) aNil)))
def F_read_pairs := runP 3 B_read_pairs


def cE_ladder_text_1 : SE :=
    (eCall 1 F_rung_text (aCons (eVar 1) aNil))
def B_ladder_text : SS :=
    (sRet (eBin addD (eFst (jE (eBin ixD (eVar 0) (eC (.int 0))) (jE (eC (.str ": ")) jNil))) (eTm joinD (eC (.str "; ")) (eFrz (lComp (iSeq (eBin ixD (eVar 0) (eC (.int 1)))) (gN 1) bYes cE_ladder_text_1 [1])))))
def F_ladder_text := runP 2 B_ladder_text

def B_read_rung : SS :=
    (sSeq (sIf (bOf (eBin eqD (eSlice (eVar 0) oNone (oSome (eC (.int 2)))) (eC (.str "f ")))) (sRet (eTup (aCons (eC (.str "fixed")) (aCons (eCall 1 F_read_pairs (aCons (eSlice (eVar 0) (oSome (eC (.int 2))) oNone) aNil)) aNil)))) sPass)
    (sSeq (sAsg 1 (eFrz (lTm splitD (eSlice (eVar 0) (oSome (eC (.int 2))) oNone) (eC (.str " up to ")))))
    (sSeq (sIf (bOr (bOf (eBin neD (eSlice (eVar 0) oNone (oSome (eC (.int 2)))) (eC (.str "s ")))) (bOf (eBin gtD (eCB lenD (aCons (eVar 1) aNil)) (eC (.int 2))))) (sRet (eC .none)) sPass)
    (sRet (eTup (aCons (eC (.str "shares")) (aCons (eCall 1 F_read_pairs (aCons (eBin ixD (eVar 1) (eC (.int 0))) aNil)) (aCons (eIf (bOf (eBin eqD (eCB lenD (aCons (eVar 1) aNil)) (eC (.int 2)))) (eCall 1 F_read_pairs (aCons (eBin ixD (eVar 1) (eC (.int 1))) aNil)) (eTup aNil)) aNil))))))))
def F_read_rung := runP 2 B_read_rung

def cE_parse_ladder_1 : SE :=
    (eCall 1 F_read_rung (aCons (eVar 3) aNil))
def B_parse_ladder : SS :=
    (sSeq (sIf (bNot (bOf (eUn (isiD "str") (eVar 0)))) sNever sPass)
    (sSeq (sAsg 1 (eFrz (lTm splitD (eVar 0) (eC (.str ": ")))))
    (sSeq (sAsg 2 (eTup (aCons (eCall 1 F_number_of (aCons (eBin ixD (eVar 1) (eC (.int 0))) aNil)) (aCons (eCB tupleD (aCons (eFrz (lComp (iSeq (eFrz (lTm splitD (eBin ixD (eVar 1) (eUn negD (eC (.int 1)))) (eC (.str "; "))))) (gN 3) bYes cE_parse_ladder_1 [3])) aNil)) aNil))))
    (sSeq (sIf (bOr (bNot (bOf (eCall 1 F_is_ladder (aCons (eVar 2) aNil)))) (bOf (eBin neD (eCall 1 F_ladder_text (aCons (eVar 2) aNil)) (eVar 0)))) sNever sPass)
    (sRet (eVar 2))))))
def F_parse_ladder := runP 4 B_parse_ladder

def cE_X_parse_ladder_1 : SE :=
    (eCall 1 F_read_rung (aCons (eVar 3) aNil))
def B_X_parse_ladder : SS :=
    (sSeq (sIf (bNot (bOf (eUn (isiD "str") (eVar 0)))) (sRaise "InvalidText") sPass)
    (sSeq (sAsg 1 (eFrz (lTm splitD (eVar 0) (eC (.str ": ")))))
    (sSeq (sAsg 2 (eTup (aCons (eCall 1 F_number_of (aCons (eBin ixD (eVar 1) (eC (.int 0))) aNil)) (aCons (eCB tupleD (aCons (eFrz (lComp (iSeq (eFrz (lTm splitD (eBin ixD (eVar 1) (eUn negD (eC (.int 1)))) (eC (.str "; "))))) (gN 3) bYes cE_X_parse_ladder_1 [3])) aNil)) aNil))))
    (sSeq (sIf (bOr (bNot (bOf (eCall 1 F_is_ladder (aCons (eVar 2) aNil)))) (bOf (eBin neD (eCall 1 F_ladder_text (aCons (eVar 2) aNil)) (eVar 0)))) (sRaise "InvalidText") sPass)
    (sRet (eVar 2))))))
def F_X_parse_ladder := runP 4 B_X_parse_ladder



end Sx

namespace Mx
/-! ### texts of ladders, as lists of signs -/
def pTx (p : Nat × Nat) : List Nat := TL.numL p.1 ++ 58 :: TL.numL p.2
def psTx (ps : List (Nat × Nat)) : List Nat := TL.joinL [32] (ps.map pTx)
def upTo' : List Nat := [32, 117, 112, 32, 116, 111, 32]
def rTx : Rung → List Nat
  | .fixed p => 102 :: 32 :: psTx p
  | .shares w c => 115 :: 32 :: (psTx w ++ if c = [] then [] else upTo' ++ psTx c)
def lTx (l : Lad) : List Nat := TL.numL l.n ++ 58 :: 32 :: TL.joinL [59, 32] (l.rs.map rTx)
end Mx
namespace Sx
open PySem PySem.Spec PyProof.Rows L2 Mx TL
abbrev mkS (l : List Nat) : Str := ⟨l.toArray⟩
theorem mkS_app (a b : List Nat) : mkS a ++ mkS b = mkS (a ++ b) := ext_tl (by rw [tl_append])
theorem mkS_len (a : List Nat) : (mkS a).length = a.length := by rw [len_tl]
theorem str_num (n : Nat) : (toString (n : Int) : Str) = mkS (TL.numL n) := ext_tl (tl_num n)
theorem mkS_join (s : List Nat) (ys : List (List Nat)) : Txt.join (mkS s) (ys.map mkS) = mkS (joinL s ys) := by
  refine ext_tl ?_
  rw [join_eq, tl_join, List.map_map]
  congr 1
  exact List.map_id' _
theorem c_colon : (":" : Str) = mkS [58] := by rfl
theorem c_sp : (" " : Str) = mkS [32] := by rfl
theorem c_f : ("f " : Str) = mkS [102, 32] := by rfl
theorem c_s : ("s " : Str) = mkS [115, 32] := by rfl
theorem c_up : (" up to " : Str) = mkS upTo' := by rfl
theorem c_cs : (": " : Str) = mkS [58, 32] := by rfl
theorem c_semi : ("; " : Str) = mkS [59, 32] := by rfl
theorem log_small {n : Nat} (h : n ≤ 999) : ((n : Int)).natAbs.log2 < 1920 := by
  rw [Int.natAbs_natCast]
  by_cases h0 : n = 0
  · subst h0; decide
  · rw [Nat.log2_lt h0]
    exact Nat.lt_of_lt_of_le (show n < 2 ^ 10 by omega) (Nat.pow_le_pow_right (by decide) (by decide))
theorem num_len {n : Nat} (h : n ≤ 999) : (TL.numL n).length ≤ 3 := TL.numL_len (by decide) (by omega)
theorem fmt_num {n : Nat} (h : n ≤ 999) : fmtD (.int (n : Int)) = some (mkS (TL.numL n)) := by
  show (if ((n : Int)).natAbs.log2 < 1920 then some (toString (n : Int) : Str) else none) = _
  rw [if_pos (log_small h), str_num]
theorem pTx_len {p : Nat × Nat} (h1 : p.1 ≤ 999) (h2 : p.2 ≤ 999) : (pTx p).length ≤ 7 := by
  unfold pTx
  rw [List.length_append, List.length_cons]
  have := num_len h1
  have := num_len h2
  omega
theorem joinL_len {s : List Nat} {m : Nat} : ∀ {ys : List (List Nat)}, (∀ y ∈ ys, y.length ≤ m) → (joinL s ys).length ≤ ys.length * (m + s.length)
  | [], _ => by show 0 ≤ _; omega
  | [y], h => by
    have := h y List.mem_cons_self
    show y.length ≤ 1 * (m + s.length)
    omega
  | y :: z :: r, h => by
    have h1 := h y List.mem_cons_self
    have h2 := joinL_len (s := s) (ys := z :: r) fun q hq => h q (List.mem_cons_of_mem _ hq)
    show (y ++ (s ++ joinL s (z :: r))).length ≤ _
    rw [List.length_append, List.length_append, List.length_cons, Nat.succ_mul]
    omega
theorem psTx_len {n m : Nat} {ps : List (Nat × Nat)} (k : POk n m ps) (hn : n ≤ 5) (hm : m ≤ 999) : (psTx ps).length ≤ 40 := by
  have h1 := pok_len k
  have h2 := joinL_len (s := [32]) (m := 7) (ys := ps.map pTx) fun y hy => by
    obtain ⟨p, hp, rfl⟩ := List.mem_map.mp hy
    have := k.el p hp
    exact pTx_len (by omega) (by omega)
  rw [List.length_map] at h2
  have h3 : [32].length = 1 := rfl
  rw [h3] at h2
  unfold psTx
  have : ps.length * (7 + 1) ≤ 5 * (7 + 1) := Nat.mul_le_mul_right _ (by omega)
  omega
theorem strsOf_map (ys : List Str) : strsOf (ys.map PyData.str) = some ys := by
  induction ys with
  | nil => rfl
  | cons y ys ih => rw [List.map_cons]; show (strsOf _).map _ = _; rw [ih]; rfl
theorem sum_le {m : Nat} : ∀ {xs : List Nat}, (∀ x ∈ xs, x ≤ m) → xs.sum ≤ xs.length * m
  | [], _ => by show 0 ≤ _; omega
  | x :: xs, h => by
    have h1 := h x List.mem_cons_self
    have h2 := sum_le fun y hy => h y (List.mem_cons_of_mem x hy)
    rw [List.sum_cons, List.length_cons, Nat.succ_mul]
    omega
theorem join_ok {s : List Nat} {ys : List (List Nat)} (hs : s.length ≤ 10) (hn : ys.length ≤ 10) (hy : ∀ y ∈ ys, y.length ≤ 200) : joinD (.str (mkS s)) (.list ((ys.map mkS).map PyData.str)) = some (.str (mkS (joinL s ys))) := by
  show (strsOf _).bind _ = _
  rw [strsOf_map, Option.bind_some]
  have h1 : ((ys.map mkS).map (·.length)).sum ≤ 10 * 200 := by
    have := sum_le (m := 200) (xs := (ys.map mkS).map (·.length)) fun x hx => by
      obtain ⟨z, hz, rfl⟩ := List.mem_map.mp hx
      obtain ⟨y, hy', rfl⟩ := List.mem_map.mp hz
      rw [mkS_len]; exact hy y hy'
    rw [List.length_map, List.length_map] at this
    have h2 : ys.length * 200 ≤ 10 * 200 := Nat.mul_le_mul_right _ hn
    omega
  have h3 : (ys.map mkS).length * (mkS s).length ≤ 10 * 10 := by
    rw [List.length_map, mkS_len]
    exact Nat.mul_le_mul hn hs
  rw [if_pos (by omega), mkS_join]
theorem add_str {a b : List Nat} (h : a.length + b.length ≤ 1000) : addD (.str (mkS a)) (.str (mkS b)) = some (.str (mkS (a ++ b))) := by
  show (if (mkS a).length + (mkS b).length ≤ 100000 then some (PyData.str (mkS a ++ mkS b)) else none) = _
  rw [mkS_len, mkS_len, if_pos (by omega), mkS_app]
@[simp] theorem eTm_s {g : Dt → Dt → Option Dt} {a b : SE} {ρ : Sl} {W : Tw} : eTm g a b ρ W = (a ρ W).bind fun p => if isStr p.1 = true then (b ρ p.2).bind fun q => ofO (g p.1 q.1) q.2 else .bad := rfl
@[simp] theorem lTm_s {g : Dt → Dt → Option (List Dt)} {a b : SE} {ρ : Sl} {W : Tw} : lTm g a b ρ W = (a ρ W).bind fun p => if isStr p.1 = true then (b ρ p.2).bind fun q => ofO (g p.1 q.1) q.2 else .bad := rfl
@[simp] theorem isStr_s {z : Str} : isStr (.str z) = true := rfl
@[simp] theorem eFst_s {j : SJ} {ρ : Sl} {W : Tw} : eFst j ρ W = (j Str.empty ρ W).bind fun p => .ok (.str p.1, p.2) := rfl
@[simp] theorem jNil_s {acc : Str} {ρ : Sl} {W : Tw} : jNil acc ρ W = .ok (acc, W) := rfl
theorem jE_ok {e : SE} {j : SJ} {acc z : List Nat} {ρ : Sl} {W W1 : Tw} {d : Dt} (h : e ρ W = .ok (d, W1)) (hf : fmtD d = some (mkS z)) (hl : acc.length + z.length ≤ 1000) : jE e j (mkS acc) ρ W = j (mkS (acc ++ z)) ρ W1 := by
  unfold jE
  rw [h, Res.bind_ok]
  simp only [hf]
  rw [mkS_len, mkS_len, if_pos (by omega), mkS_app]
theorem fmt_str {z : List Nat} (h : z.length ≤ 1000) : fmtD (.str (mkS z)) = some (mkS z) := by
  show (if (mkS z).length ≤ 90000 then some (mkS z) else none) = _
  rw [mkS_len, if_pos (by omega)]
section
variable {n m : Nat} {ps : List (Nat × Nat)}
theorem pairs_text_ok (k : POk n m ps) (hn : n ≤ 5) (hm : m ≤ 999) : F_pairs_text [prs ps] = .ok (.str (mkS (psTx ps))) := by
  have hc : cL (gTu 2 (gsCons (gN 1) (gsCons (gN 2) gsNil))) bYes cE_pairs_text_1 [some (.d (prs ps)), none, none] (ps.map pr) none = .ok (((ps.map pTx).map mkS).map PyData.str, none) := by
    rw [List.map_map, List.map_map]
    refine cL_map pr _ _ fun p hp => ⟨[some (.d (prs ps)), some (.d (iD p.1)), some (.d (iD p.2))], rfl, ?_⟩
    have hb := k.el p hp
    have l1 := num_len (n := p.1) (by omega)
    have l2 := num_len (n := p.2) (by omega)
    have e0 : Str.empty = mkS [] := rfl
    show eFst _ _ _ = _
    rw [eFst_s, e0, jE_ok (d := iD p.1) rfl (fmt_num (by omega)) (by simp; omega), jE_ok (d := .str ":") rfl (by rw [c_colon]; exact fmt_str (by decide)) (by simp; omega), jE_ok (d := iD p.2) rfl (fmt_num (by omega)) (by simp; omega)]
    show Res.ok (PyData.str (mkS ([] ++ TL.numL p.1 ++ [58] ++ TL.numL p.2)), none) = .ok (PyData.str (mkS (pTx p)), none)
    unfold pTx
    simp
  have hpl := pok_len k
  have hj := join_ok (s := [32]) (ys := ps.map pTx) (by decide) (by rw [List.length_map]; omega) fun y hy => by
    obtain ⟨p, hp, rfl⟩ := List.mem_map.mp hy
    have := k.el p hp
    exact Nat.le_trans (pTx_len (by omega) (by omega)) (by decide)
  rw [← c_sp] at hj
  have hq : seqOf (prs ps) = some (ps.map pr) := rfl
  have hl : (ps.map pr).length ≤ 100000 := by rw [List.length_map]; omega
  unfold F_pairs_text psTx
  simp only [B_pairs_text]
  generalize ((ps.map pTx).map mkS).map PyData.str = Z at *
  generalize prs ps = P at *
  generalize ps.map pr = PP at *
  simp [hq, hl, wipeOk, hc, hj]
end
end Sx

namespace Sx
open PySem PySem.Spec PyProof.Rows L2 Mx TL
theorem rfix0 {p : List (Nat × Nat)} : ixD (rd (.fixed p)) (.int 0) = some (.str "fixed") := rfl
theorem rfix1 {p : List (Nat × Nat)} : ixD (rd (.fixed p)) (.int 1) = some (prs p) := rfl
theorem rsha0 {w c : List (Nat × Nat)} : ixD (rd (.shares w c)) (.int 0) = some (.str "shares") := rfl
theorem rsha1 {w c : List (Nat × Nat)} : ixD (rd (.shares w c)) (.int 1) = some (prs w) := rfl
theorem rsha2 {w c : List (Nat × Nat)} : ixD (rd (.shares w c)) (.int 2) = some (prs c) := rfl
theorem qff : eqD (.str "fixed") (.str "fixed") = some (.bool true) := by kernel_rfl
theorem qsf : eqD (.str "shares") (.str "fixed") = some (.bool false) := by kernel_rfl
theorem ne_prs {c : List (Nat × Nat)} : neD (prs c) (.tuple []) = some (.bool (decide (c ≠ []))) := by
  have h := neD_nilT (ds := c.map pr) (k := 1) (flts_map fun p _ => flt_pr) (by decide)
  have e : (!(c.map pr).isEmpty) = decide (c ≠ []) := by cases c <;> rfl
  rw [e] at h
  exact h
theorem rTx_len {n : Nat} {r : Rung} (k : r.Ok n) (hn : n ≤ 5) : (rTx r).length ≤ 100 := by
  cases r with
  | fixed p =>
    have := psTx_len k.2 hn (by decide)
    show (psTx p).length + 1 + 1 ≤ 100
    omega
  | shares w c =>
    have h1 := psTx_len k.2.1 hn (by decide)
    have h2 := psTx_len k.2.2.1 hn (by decide)
    show (psTx w ++ if c = [] then [] else upTo' ++ psTx c).length + 1 + 1 ≤ 100
    rw [List.length_append]
    split
    · simp; omega
    · rw [List.length_append]
      have : upTo'.length = 7 := rfl
      omega
theorem rung_text_ok {n : Nat} {r : Rung} (k : r.Ok n) (hn : n ≤ 5) : F_rung_text [rd r] = .ok (.str (mkS (rTx r))) := by
  cases r with
  | fixed p =>
    have h1 := pairs_text_ok k.2 hn (by decide)
    have l1 := psTx_len k.2 hn (by decide)
    have a1 := add_str (a := [102, 32]) (b := psTx p) (by simp; omega)
    rw [← c_f] at a1
    have i0 := rfix0 (p := p)
    have i1 := rfix1 (p := p)
    have e : rTx (.fixed p) = [102, 32] ++ psTx p := rfl
    rw [e]
    unfold F_rung_text
    simp only [B_rung_text]
    generalize rd (.fixed p) = R at *
    generalize prs p = P at *
    generalize mkS (psTx p) = T at *
    generalize mkS ([102, 32] ++ psTx p) = T2 at *
    simp [i0, i1, qff, h1, a1]
  | shares w c =>
    have h1 := pairs_text_ok k.2.1 hn (by decide)
    have h2 := pairs_text_ok k.2.2.1 hn (by decide)
    have l1 := psTx_len k.2.1 hn (by decide)
    have l2 := psTx_len k.2.2.1 hn (by decide)
    have a1 := add_str (a := [115, 32]) (b := psTx w) (by simp; omega)
    rw [← c_s] at a1
    have a2 := add_str (a := [115, 32] ++ psTx w) (b := upTo') (by simp [upTo']; omega)
    rw [← c_up] at a2
    have a3 := add_str (a := [115, 32] ++ psTx w ++ upTo') (b := psTx c) (by simp [upTo']; omega)
    have i0 := rsha0 (w := w) (c := c)
    have i1 := rsha1 (w := w) (c := c)
    have i2 := rsha2 (w := w) (c := c)
    have hne := ne_prs (c := c)
    unfold F_rung_text
    simp only [B_rung_text]
    by_cases hc : c = []
    · rw [decide_eq_false (fun z => z hc)] at hne
      have e : rTx (.shares w c) = [115, 32] ++ psTx w := by
        show 115 :: 32 :: (psTx w ++ if c = [] then [] else upTo' ++ psTx c) = _
        rw [if_pos hc, List.append_nil]; rfl
      rw [e]
      generalize rd (.shares w c) = R at *
      generalize prs w = P at *
      generalize prs c = PC at *
      generalize mkS (psTx w) = T at *
      generalize mkS ([115, 32] ++ psTx w) = T2 at *
      simp [i0, i1, i2, qsf, h1, a1, hne]
    · rw [decide_eq_true hc] at hne
      have e : rTx (.shares w c) = [115, 32] ++ psTx w ++ upTo' ++ psTx c := by
        show 115 :: 32 :: (psTx w ++ if c = [] then [] else upTo' ++ psTx c) = _
        rw [if_neg hc]
        simp
      rw [e]
      generalize rd (.shares w c) = R at *
      generalize prs w = P at *
      generalize prs c = PC at *
      generalize mkS (psTx w) = T at *
      generalize mkS (psTx c) = T4 at *
      generalize mkS ([115, 32] ++ psTx w ++ upTo' ++ psTx c) = T5 at *
      generalize mkS ([115, 32] ++ psTx w ++ upTo') = T3 at *
      generalize mkS ([115, 32] ++ psTx w) = T2 at *
      simp [i0, i1, i2, qsf, h1, h2, a1, a2, a3, hne]
section
variable {l : Lad}
theorem rs_join (k : l.Ok) : joinD (.str "; ") (.list (((l.rs.map rTx).map mkS).map PyData.str)) = some (.str (mkS (joinL [59, 32] (l.rs.map rTx)))) := by
  have r4 := k.r4
  rw [c_semi]
  exact join_ok (by decide) (by rw [List.length_map]; omega) fun y hy => by
    obtain ⟨r, hr, rfl⟩ := List.mem_map.mp hy
    exact Nat.le_trans (rTx_len (k.ok r hr) k.n5) (by decide)
theorem rs_len (k : l.Ok) : (joinL [59, 32] (l.rs.map rTx)).length ≤ 410 := by
  have r4 := k.r4
  have h2 := joinL_len (s := [59, 32]) (m := 100) (ys := l.rs.map rTx) fun y hy => by
    obtain ⟨r, hr, rfl⟩ := List.mem_map.mp hy
    exact rTx_len (k.ok r hr) k.n5
  rw [List.length_map] at h2
  have h3 : [59, 32].length = 2 := rfl
  rw [h3] at h2
  have : l.rs.length * (100 + 2) ≤ 4 * (100 + 2) := Nat.mul_le_mul_right _ r4
  omega
theorem lTx_len (k : l.Ok) : (lTx l).length ≤ 420 := by
  have h1 := rs_len k
  have h2 := num_len (n := l.n) (by have := k.n5; omega)
  unfold lTx
  rw [List.length_append, List.length_cons, List.length_cons]
  omega
theorem ladder_text_ok (k : l.Ok) : F_ladder_text [ld l] = .ok (.str (mkS (lTx l))) := by
  have n5 := k.n5
  have r4 := k.r4
  have hc : cL (gN 1) bYes cE_ladder_text_1 [some (.d (ld l)), none] (l.rs.map rd) none = .ok (((l.rs.map rTx).map mkS).map PyData.str, none) := by
    rw [List.map_map, List.map_map]
    refine cL_map rd _ _ fun r hr => ⟨[some (.d (ld l)), some (.d (rd r))], rfl, ?_⟩
    have h := rung_text_ok (k.ok r hr) n5
    generalize ld l = L
    generalize rd r = R at *
    simp only [cE_ladder_text_1]
    simp [h]
  have hj := rs_join k
  have hl := rs_len k
  have i0 : ixD (ld l) (.int 0) = some (.int (l.n : Int)) := rfl
  have i1 : ixD (ld l) (.int 1) = some (.tuple (l.rs.map rd)) := rfl
  have hn := num_len (n := l.n) (by omega)
  have hfst : eFst (jE (eBin ixD (eVar 0) (eC (.int 0))) (jE (eC (.str ": ")) jNil)) [some (.d (ld l)), none] none = .ok (.str (mkS (TL.numL l.n ++ [58, 32])), none) := by
    have e0 : Str.empty = mkS [] := rfl
    rw [eFst_s, e0, jE_ok (d := .int (l.n : Int)) (W1 := none) (by generalize ld l = L at *; simp [i0]) (fmt_num (by omega)) (by simp; omega), jE_ok (d := .str ": ") (W1 := none) rfl (by rw [c_cs]; exact fmt_str (by decide)) (by simp; omega)]
    simp
  have a1 := add_str (a := TL.numL l.n ++ [58, 32]) (b := joinL [59, 32] (l.rs.map rTx)) (by simp; omega)
  have e : lTx l = TL.numL l.n ++ [58, 32] ++ joinL [59, 32] (l.rs.map rTx) := by unfold lTx; simp
  rw [e]
  have hrl : (l.rs.map rd).length ≤ 100000 := by rw [List.length_map]; omega
  unfold F_ladder_text
  simp only [B_ladder_text]
  generalize ((l.rs.map rTx).map mkS).map PyData.str = Z at *
  generalize ld l = L at *
  generalize l.rs.map rd = RS at *
  generalize mkS (TL.numL l.n ++ [58, 32] ++ joinL [59, 32] (l.rs.map rTx)) = T1 at *
  generalize mkS (TL.numL l.n ++ [58, 32]) = T2 at *
  generalize mkS (joinL [59, 32] (l.rs.map rTx)) = T3 at *
  generalize eFst (jE (eBin ixD (eVar 0) (eC (.int 0))) (jE (eC (.str ": ")) jNil)) = E1 at *
  simp [hfst, i1, wipeOk, hrl, hc, hj, a1]
end
end Sx

namespace Mx
/-! ### texts read -/
def isDig (c : Nat) : Bool := decide (c ∈ ([48, 49, 50, 51, 52, 53, 54, 55, 56, 57] : List Nat))
def nv (w : List Nat) : Int := if 1 ≤ w.length ∧ w.length ≤ 3 ∧ w.all isDig = true then (PySem.NumText.digitsVal w : Int) else -1
abbrev sp (y w : List Nat) : List (List Nat) := TL.spl y 0 [] w
theorem spl_small {y : List Nat} : ∀ (k : Nat) (acc l : List Nat), (∀ u ∈ TL.spl y k acc l, u.length ≤ acc.length + l.length) ∧ (TL.spl y k acc l).length ≤ l.length + 1
  | k, acc, [] => by
    rw [TL.spl_nil]
    refine ⟨fun u hu => ?_, Nat.le_refl _⟩
    rw [List.mem_singleton.mp hu]; simp
  | 0, acc, c :: r => by
    cases hp : TL.pre y (c :: r) with
    | true =>
      rw [TL.spl_hit hp]
      obtain ⟨h1, h2⟩ := spl_small (y := y) (y.length - 1) [] r
      refine ⟨fun u hu => ?_, by simp; omega⟩
      rcases List.mem_cons.mp hu with z | z
      · rw [z]; omega
      · have := h1 u z
        simp at this ⊢; omega
    | false =>
      rw [TL.spl_miss hp]
      obtain ⟨h1, h2⟩ := spl_small (y := y) 0 (acc ++ [c]) r
      refine ⟨fun u hu => ?_, by simp; omega⟩
      have := h1 u hu
      simp at this ⊢; omega
  | k + 1, acc, c :: r => by
    obtain ⟨h1, h2⟩ := spl_small (y := y) k acc r
    show (∀ u ∈ TL.spl y k acc r, _) ∧ (TL.spl y k acc r).length ≤ _
    refine ⟨fun u hu => ?_, by simp; omega⟩
    have := h1 u hu
    simp; omega
theorem sp_len {y w u : List Nat} (h : u ∈ sp y w) : u.length ≤ w.length := by
  have := (spl_small (y := y) 0 [] w).1 u h
  simpa using this
theorem sp_num {y w : List Nat} : (sp y w).length ≤ w.length + 1 := (spl_small 0 [] w).2
theorem sp_ne {y w : List Nat} : sp y w ≠ [] := by
  have key : ∀ (k : Nat) (acc l : List Nat), TL.spl y k acc l ≠ [] := by
    intro k acc l
    induction l generalizing k acc with
    | nil => rw [TL.spl_nil]; simp
    | cons c r ih =>
      cases k with
      | zero =>
        cases hp : TL.pre y (c :: r) with
        | true => rw [TL.spl_hit hp]; simp
        | false => rw [TL.spl_miss hp]; exact ih _ _
      | succ k => exact ih k acc
  exact key 0 [] w
end Mx
namespace Sx
open PySem PySem.Spec PyProof.Rows L2 Mx TL
theorem number_of_ok {w : List Nat} (h : w.length ≤ 1000) : F_number_of [.str (mkS w)] = .ok (.int (nv w)) := by
  have hc : cL (gN 1) bYes cE_number_of_1 [some (.d (.str (mkS w))), none] (chrs (mkS w)) none = .ok (w.map fun c => PyData.bool (isDig c), none) := by
    show cL (gN 1) bYes cE_number_of_1 [some (.d (.str (mkS w))), none] (w.map fun c => PyData.str ⟨#[c]⟩) none = _
    refine cL_map (fun c : Nat => PyData.str ⟨#[c]⟩) _ _ fun c hcm => ⟨[some (.d (.str (mkS w))), some (.d (.str ⟨#[c]⟩))], rfl, ?_⟩
    have hi : inTD (.str ⟨#[c]⟩) (.str "0123456789") = some (.bool (isDig c)) := rfl
    generalize mkS w = T
    simp only [cE_number_of_1]
    simp [hi]
  have ha := allD_map isDig w
  have hl : lenD [.str (mkS w)] = some (.int (w.length : Int)) := by
    show (if (mkS w).length ≤ 100000 then some (PyData.int ((mkS w).length : Int)) else none) = _
    rw [mkS_len, if_pos (by omega)]
  have hcl : (chrs (mkS w)).length ≤ 100000 := by
    show (w.map _).length ≤ 100000
    rw [List.length_map]; omega
  have hch : iChr (eVar 0) [some (.d (.str (mkS w))), none] none = .ok (chrs (mkS w), none) := rfl
  by_cases h1 : 1 ≤ w.length ∧ w.length ≤ 3
  · by_cases h2 : w.all isDig = true
    · have hd : NumText.AllDigits w := fun c hcm => by
        have := List.all_eq_true.mp h2 c hcm
        unfold isDig at this
        have := of_decide_eq_true this
        simp at this
        omega
      have hi : intTD [.str (mkS w)] = some (.int (nv w)) := by
        show (if (mkS w).length ≤ 600 then (PySem.intText? (mkS w)).map PyData.int else none) = _
        rw [mkS_len, if_pos (by omega), intText_digits (x := mkS w) hd (fun z => by
          have z : w = [] := z
          rw [z] at h1; simp at h1) (by rw [mkS_len]; omega)]
        unfold nv
        rw [if_pos ⟨h1.1, h1.2, h2⟩]
        rfl
      rw [h2] at ha
      unfold F_number_of
      simp only [B_number_of]
      generalize chrs (mkS w) = CH at *
      generalize iChr (eVar 0) = IC at *
      generalize mkS w = T at *
      generalize (w.map fun c => PyData.bool (isDig c)) = BL at *
      generalize nv w = N at *
      simp [hl, show (1 : Int) ≤ (w.length : Int) by omega, show (w.length : Int) ≤ 3 by omega, hch, wipeOk, hcl, hc, ha, hi]
    · have hn : nv w = -1 := by unfold nv; rw [if_neg fun z => h2 z.2.2]
      rw [hn]
      have h2 : w.all isDig = false := by simpa using h2
      rw [h2] at ha
      unfold F_number_of
      simp only [B_number_of]
      generalize chrs (mkS w) = CH at *
      generalize iChr (eVar 0) = IC at *
      generalize mkS w = T at *
      generalize (w.map fun c => PyData.bool (isDig c)) = BL at *
      simp [hl, show (1 : Int) ≤ (w.length : Int) by omega, show (w.length : Int) ≤ 3 by omega, hch, wipeOk, hcl, hc, ha]
  · have hn : nv w = -1 := by unfold nv; rw [if_neg fun z => h1 ⟨z.1, z.2.1⟩]
    rw [hn]
    unfold F_number_of
    simp only [B_number_of]
    generalize mkS w = T at *
    by_cases h3 : 1 ≤ w.length
    · have : 3 < w.length := by omega
      simp [hl, show (1 : Int) ≤ (w.length : Int) by omega, show ¬ (w.length : Int) ≤ 3 by omega]
    · simp [hl, show ¬ (1 : Int) ≤ (w.length : Int) by omega]
theorem split_ok {y w : List Nat} (hy : y ≠ []) (hk : y.all (· < 256) = true) (h : w.length ≤ 90000) : splitD (.str (mkS w)) (.str (mkS y)) = some ((sp y w).map fun u => PyData.str (mkS u)) := by
  have e : Txt.split (mkS w) (mkS y) = (sp y w).map mkS := by
    refine map_tl_inj ?_
    rw [split_spl _ _ (show tl (mkS y) ≠ [] from hy) (kind_ok (by
      show (y.toArray).all (· < 256) = true
      rw [List.all_toArray]; exact hk)), List.map_map]
    exact (List.map_id' _).symm
  show (if (mkS y).length ≠ 0 ∧ (mkS w).length ≤ 90000 then some ((Txt.split (mkS w) (mkS y)).map PyData.str) else none) = _
  rw [mkS_len, mkS_len, if_pos ⟨fun z => hy (List.length_eq_zero_iff.mp z), h⟩, e, List.map_map]
  rfl
/-- pairs, as they are read -/
def rpD (w : List Nat) : Dt := .tuple ((sp [32] w).map fun u => .tuple ((sp [58] u).map fun v => .int (nv v)))
theorem read_pairs_ok {w : List Nat} (h : w.length ≤ 1000) : F_read_pairs [.str (mkS w)] = .ok (rpD w) := by
  have hs := split_ok (y := [32]) (w := w) (by simp) (by decide) (by omega)
  rw [← c_sp] at hs
  have hc : cL (gN 1) bYes cE_read_pairs_1 [some (.d (.str (mkS w))), none, none] ((sp [32] w).map fun u => PyData.str (mkS u)) none = .ok ((sp [32] w).map fun u => PyData.tuple ((sp [58] u).map fun v => .int (nv v)), none) := by
    refine cL_map (fun u : List Nat => PyData.str (mkS u)) _ _ fun u hu => ⟨[some (.d (.str (mkS w))), some (.d (.str (mkS u))), none], rfl, ?_⟩
    have hul := sp_len hu
    have hs2 := split_ok (y := [58]) (w := u) (by simp) (by decide) (by omega)
    rw [← c_colon] at hs2
    have hc2 : cL (gN 2) bYes cE_read_pairs_2 [some (.d (.str (mkS w))), some (.d (.str (mkS u))), none] ((sp [58] u).map fun v => PyData.str (mkS v)) none = .ok ((sp [58] u).map fun v => PyData.int (nv v), none) := by
      refine cL_map (fun v : List Nat => PyData.str (mkS v)) _ _ fun v hv => ⟨[some (.d (.str (mkS w))), some (.d (.str (mkS u))), some (.d (.str (mkS v)))], rfl, ?_⟩
      have hvl := sp_len hv
      have hn := number_of_ok (w := v) (by omega)
      generalize mkS w = T1
      generalize mkS u = T2
      generalize mkS v = T3 at *
      simp only [cE_read_pairs_2]
      simp [hn]
    have hl2 : ((sp [58] u).map fun v => PyData.str (mkS v)).length ≤ 100000 := by
      rw [List.length_map]
      have := sp_num (y := [58]) (w := u)
      omega
    generalize mkS w = T1 at *
    generalize mkS u = T2 at *
    generalize ((sp [58] u).map fun v => PyData.str (mkS v)) = Z1 at *
    generalize ((sp [58] u).map fun v => PyData.int (nv v)) = Z2 at *
    simp only [cE_read_pairs_1]
    simp [hs2, wipeOk, hl2, hc2]
  have hl : ((sp [32] w).map fun u => PyData.str (mkS u)).length ≤ 100000 := by
    rw [List.length_map]
    have := sp_num (y := [32]) (w := w)
    omega
  unfold F_read_pairs rpD
  simp only [B_read_pairs]
  generalize mkS w = T1 at *
  generalize ((sp [32] w).map fun u => PyData.str (mkS u)) = Z1 at *
  generalize ((sp [32] w).map fun u => PyData.tuple ((sp [58] u).map fun v => .int (nv v))) = Z2 at *
  simp [hs, wipeOk, hl, hc]
theorem cutS_take {w : List Nat} {n : Nat} : cutS (mkS w) none (some (n : Int)) = mkS (w.take n) := by
  unfold cutS
  rw [HT.sIx_nat, HT.sIx_none, List.drop_zero, Nat.sub_zero, mkS_len]
  congr 1
  by_cases h : n ≤ w.length
  · rw [Nat.min_eq_left h]
  · rw [Nat.min_eq_right (by omega), List.take_of_length_le (Nat.le_refl _), List.take_of_length_le (by omega)]
theorem cutS_drop {w : List Nat} {n : Nat} : cutS (mkS w) (some (n : Int)) none = mkS (w.drop n) := by
  unfold cutS
  rw [HT.sIx_nat, HT.sIx_none, mkS_len]
  congr 1
  by_cases h : n ≤ w.length
  · rw [Nat.min_eq_left h, List.take_of_length_le (by rw [List.length_drop]; exact Nat.le_refl _)]
  · rw [Nat.min_eq_right (by omega), List.drop_of_length_le (show w.length ≤ n by omega)]
    simp
def Asc8 (w : List Nat) : Prop := ∀ c ∈ w, c < 1000
theorem shaped_str {w : List Nat} (hk : Asc8 w) : SeqAt.shaped (.str (mkS w)) = true := by
  have h : PyData.canLay0 (.str (mkS w)) = true := by
    show (w.toArray).all (· < 0x110000) = true
    rw [List.all_toArray, List.all_eq_true]
    intro c hc
    have := hk c hc
    simp; omega
  unfold SeqAt.shaped
  rw [h]
  rfl
theorem beq_mk {a b : List Nat} : ((mkS a) == (mkS b)) = decide (a = b) := by
  by_cases h : a = b
  · subst h; simp
  · rw [decide_eq_false h]
    rw [beq_eq_false_iff_ne]
    intro z
    exact h (by have := congrArg tl z; exact this)
theorem eq_mk {a b : List Nat} (ha : Asc8 a) (hb : Asc8 b) : eqD (.str (mkS a)) (.str (mkS b)) = some (.bool (decide (a = b))) := eqD_str (shaped_str ha) (shaped_str hb) beq_mk
theorem ne_mk {a b : List Nat} (ha : Asc8 a) (hb : Asc8 b) : neD (.str (mkS a)) (.str (mkS b)) = some (.bool (!decide (a = b))) := neD_str (shaped_str ha) (shaped_str hb) beq_mk
theorem Asc8.take {w : List Nat} (h : Asc8 w) (n : Nat) : Asc8 (w.take n) := fun c hc => h c (List.mem_of_mem_take hc)
theorem Asc8.drop {w : List Nat} (h : Asc8 w) (n : Nat) : Asc8 (w.drop n) := fun c hc => h c (List.mem_of_mem_drop hc)
theorem spl_mem {y : List Nat} : ∀ (k : Nat) (acc l : List Nat) (u : List Nat), u ∈ TL.spl y k acc l → ∀ c ∈ u, c ∈ acc ∨ c ∈ l
  | k, acc, [], u, hu, c, hc => by
    rw [TL.spl_nil] at hu
    rw [List.mem_singleton.mp hu] at hc
    exact .inl hc
  | 0, acc, x :: r, u, hu, c, hc => by
    cases hp : TL.pre y (x :: r) with
    | true =>
      rw [TL.spl_hit hp] at hu
      rcases List.mem_cons.mp hu with z | z
      · rw [z] at hc; exact .inl hc
      · rcases spl_mem _ _ _ u z c hc with q | q
        · cases q
        · exact .inr (List.mem_cons_of_mem _ q)
    | false =>
      rw [TL.spl_miss hp] at hu
      rcases spl_mem _ _ _ u hu c hc with q | q
      · rcases List.mem_append.mp q with q | q
        · exact .inl q
        · rw [List.mem_singleton.mp q]; exact .inr List.mem_cons_self
      · exact .inr (List.mem_cons_of_mem _ q)
  | k + 1, acc, x :: r, u, hu, c, hc => by
    rcases spl_mem k acc r u hu c hc with q | q
    · exact .inl q
    · exact .inr (List.mem_cons_of_mem _ q)
theorem Asc8.sp {w y u : List Nat} (h : Asc8 w) (hu : u ∈ sp y w) : Asc8 u := fun c hc => by
  rcases spl_mem 0 [] w u hu c hc with q | q
  · cases q
  · exact h c q
/-- a rung, as it is read -/
def rrD (w : List Nat) : Dt := if w.take 2 = [102, 32] then .tuple [.str "fixed", rpD (w.drop 2)] else
  if w.take 2 = [115, 32] then match sp upTo' (w.drop 2) with
    | [a] => .tuple [.str "shares", rpD a, .tuple []]
    | [a, b] => .tuple [.str "shares", rpD a, rpD b]
    | _ => .none
  else .none
theorem asc_f : Asc8 [102, 32] := by unfold Asc8; decide
theorem asc_s : Asc8 [115, 32] := by unfold Asc8; decide
theorem read_rung_ok {w : List Nat} (h : w.length ≤ 1000) (ha : Asc8 w) : F_read_rung [.str (mkS w)] = .ok (rrD w) := by
  have sl1 : sliceD (.str (mkS w)) none (some 2) = some (.str (mkS (w.take 2))) := by
    show (if (mkS w).length ≤ 100000 then some (PyData.str (cutS (mkS w) none (some 2))) else none) = _
    rw [mkS_len, if_pos (by omega)]
    have := cutS_take (w := w) (n := 2)
    exact congrArg (fun z => some (PyData.str z)) this
  have sl2 : sliceD (.str (mkS w)) (some 2) none = some (.str (mkS (w.drop 2))) := by
    show (if (mkS w).length ≤ 100000 then some (PyData.str (cutS (mkS w) (some 2) none)) else none) = _
    rw [mkS_len, if_pos (by omega)]
    have := cutS_drop (w := w) (n := 2)
    exact congrArg (fun z => some (PyData.str z)) this
  have hdl : (w.drop 2).length ≤ 1000 := by rw [List.length_drop]; omega
  have e1 := eq_mk (ha.take 2) asc_f
  rw [← c_f] at e1
  have e2 := ne_mk (ha.take 2) asc_s
  rw [← c_s] at e2
  have hsp := split_ok (y := upTo') (w := w.drop 2) (by simp [upTo']) (by decide) (by omega)
  rw [← c_up] at hsp
  have hr := read_pairs_ok hdl
  unfold F_read_rung
  simp only [B_read_rung]
  unfold rrD
  by_cases h1 : w.take 2 = [102, 32]
  · rw [decide_eq_true h1] at e1
    rw [if_pos h1]
    generalize rpD (w.drop 2) = R at *
    generalize mkS (w.drop 2) = T2 at *
    generalize mkS (w.take 2) = T3 at *
    generalize mkS w = T at *
    simp [sl1, sl2, e1, hr]
  · rw [decide_eq_false h1] at e1
    rw [if_neg h1]
    have hmem : ∀ u ∈ sp upTo' (w.drop 2), u.length ≤ 1000 := fun u hu => Nat.le_trans (sp_len hu) hdl
    have hrs : ∀ u ∈ sp upTo' (w.drop 2), F_read_pairs [.str (mkS u)] = .ok (rpD u) := fun u hu => read_pairs_ok (hmem u hu)
    have hne := sp_ne (y := upTo') (w := w.drop 2)
    have hnum : ((sp upTo' (w.drop 2)).map fun u => PyData.str (mkS u)).length ≤ 100000 := by
      rw [List.length_map]
      have := sp_num (y := upTo') (w := w.drop 2)
      omega
    by_cases h2 : w.take 2 = [115, 32]
    · rw [decide_eq_true h2] at e2
      rw [if_pos h2]
      generalize hS : sp upTo' (w.drop 2) = S at *
      match S, hS, hsp, hrs, hne with
      | [], _, _, _, hne => exact absurd rfl hne
      | [a], _, hsp, hrs, _ =>
        have ra := hrs a List.mem_cons_self
        generalize mkS (w.drop 2) = T2 at *
        generalize mkS (w.take 2) = T3 at *
        generalize mkS w = T at *
        simp at hsp
        simp [sl1, sl2, e1, e2, hsp, ra]
      | [a, b], _, hsp, hrs, _ =>
        have ra := hrs a List.mem_cons_self
        have rb := hrs b (List.mem_cons_of_mem _ List.mem_cons_self)
        generalize mkS (w.drop 2) = T2 at *
        generalize mkS (w.take 2) = T3 at *
        generalize mkS w = T at *
        simp at hsp
        simp [sl1, sl2, e1, e2, hsp, ra, rb]
      | a :: b :: c :: r, _, hsp, hrs, _ =>
        generalize mkS (w.drop 2) = T2 at *
        generalize mkS (w.take 2) = T3 at *
        generalize mkS w = T at *
        simp at hsp
        simp [sl1, sl2, e1, e2, hsp, show (2 : Int) < (r.length : Int) + 1 + 1 + 1 by omega]
    · rw [decide_eq_false h2] at e2
      rw [if_neg h2]
      generalize ((sp upTo' (w.drop 2)).map fun u => PyData.str (mkS u)) = Z at *
      generalize mkS (w.drop 2) = T2 at *
      generalize mkS (w.take 2) = T3 at *
      generalize mkS w = T at *
      simp [sl1, sl2, e1, e2, hsp]
/-- a ladder, as it is read -/
def sides0 (z : List Nat) : List Nat := (sp [58, 32] z).headD []
def sidesL (z : List Nat) : List Nat := ((sp [58, 32] z).getLast?).getD []
def foD (z : List Nat) : Dt := .tuple [.int (nv (sides0 z)), .tuple ((sp [59, 32] (sidesL z)).map rrD)]
theorem sides_mem {z : List Nat} : sides0 z ∈ sp [58, 32] z ∧ sidesL z ∈ sp [58, 32] z := by
  have hne := sp_ne (y := [58, 32]) (w := z)
  unfold sides0 sidesL
  cases h : sp [58, 32] z with
  | nil => exact absurd h hne
  | cons a r =>
    refine ⟨List.mem_cons_self, ?_⟩
    rw [List.getLast?_eq_some_getLast (by simp)]
    exact List.getLast_mem _
section
variable {z : List Nat}
theorem parse_steps (h : z.length ≤ 900) (ha : Asc8 z) :
    splitD (.str (mkS z)) (.str ": ") = some ((sp [58, 32] z).map fun u => PyData.str (mkS u)) ∧
    atI ((sp [58, 32] z).map fun u => PyData.str (mkS u)) 0 = some (.str (mkS (sides0 z))) ∧
    atI ((sp [58, 32] z).map fun u => PyData.str (mkS u)) (-1) = some (.str (mkS (sidesL z))) ∧
    F_number_of [.str (mkS (sides0 z))] = .ok (.int (nv (sides0 z))) ∧
    splitD (.str (mkS (sidesL z))) (.str "; ") = some ((sp [59, 32] (sidesL z)).map fun u => PyData.str (mkS u)) ∧
    (∀ u ∈ sp [59, 32] (sidesL z), F_read_rung [.str (mkS u)] = .ok (rrD u)) ∧ ((sp [59, 32] (sidesL z)).map fun u => PyData.str (mkS u)).length ≤ 100000 := by
  obtain ⟨m1, m2⟩ := sides_mem (z := z)
  have l1 := sp_len m1
  have l2 := sp_len m2
  have s1 := split_ok (y := [58, 32]) (w := z) (by simp) (by decide) (by omega)
  rw [← c_cs] at s1
  have s2 := split_ok (y := [59, 32]) (w := sidesL z) (by simp) (by decide) (by omega)
  rw [← c_semi] at s2
  refine ⟨s1, ?_, ?_, number_of_ok (by omega), s2, fun u hu => read_rung_ok (by have := sp_len hu; omega) ((ha.sp m2).sp hu), ?_⟩
  · have hne := sp_ne (y := [58, 32]) (w := z)
    unfold sides0
    cases hs : sp [58, 32] z with
    | nil => exact absurd hs hne
    | cons a r => simp
  · have hne := sp_ne (y := [58, 32]) (w := z)
    unfold sidesL
    obtain ⟨r, a, e⟩ : ∃ r a, sp [58, 32] z = r ++ [a] := ⟨_, _, (List.dropLast_concat_getLast hne).symm⟩
    rw [e, List.map_append, List.map_singleton, atI_last]
    simp
  · rw [List.length_map]
    have := sp_num (y := [59, 32]) (w := sidesL z)
    omega
theorem parse_true {l : Lad} (h : z.length ≤ 900) (ha : Asc8 z) (k : l.Ok) (hf : foD z = ld l) (hal : Asc8 (lTx l)) : F_X_parse_ladder [.str (mkS z)] = if lTx l = z then .ok (ld l) else .exc "InvalidText" := by
  obtain ⟨s1, a0, a1, n0, s2, hr, hl⟩ := parse_steps h ha
  have hc : cL (gN 3) bYes cE_X_parse_ladder_1 [some (.d (.str (mkS z))), some (.d (.list ((sp [58, 32] z).map fun u => PyData.str (mkS u)))), none, none] ((sp [59, 32] (sidesL z)).map fun u => PyData.str (mkS u)) none = .ok ((sp [59, 32] (sidesL z)).map rrD, none) := by
    refine cL_map (fun u : List Nat => PyData.str (mkS u)) _ _ fun u hu => ⟨[some (.d (.str (mkS z))), some (.d (.list ((sp [58, 32] z).map fun u => PyData.str (mkS u)))), none, some (.d (.str (mkS u)))], rfl, ?_⟩
    have h1 := hr u hu
    generalize mkS u = U at *
    generalize ((sp [58, 32] z).map fun u => PyData.str (mkS u)) = Z
    simp only [cE_X_parse_ladder_1]
    simp [h1]
  have hi : isiD "str" (.str (mkS z)) = some (.bool true) := rfl
  have il := is_ladder_true k
  have lt := ladder_text_ok k
  have hne := ne_mk hal ha
  rw [← hf] at il lt ⊢
  unfold foD at il lt ⊢
  unfold F_X_parse_ladder
  simp only [B_X_parse_ladder]
  generalize ((sp [58, 32] z).map fun u => PyData.str (mkS u)) = Z1 at *
  generalize ((sp [59, 32] (sidesL z)).map fun u => PyData.str (mkS u)) = Z2 at *
  generalize (sp [59, 32] (sidesL z)).map rrD = Z3 at *
  generalize mkS (sides0 z) = T0 at *
  generalize mkS (sidesL z) = T1 at *
  generalize mkS (lTx l) = T3 at *
  generalize mkS z = T at *
  by_cases he : lTx l = z
  · rw [decide_eq_true he] at hne
    rw [if_pos he]
    simp [hi, s1, a0, a1, n0, s2, wipeOk, hl, hc, il, lt, hne]
  · rw [decide_eq_false he] at hne
    rw [if_neg he]
    simp [hi, s1, a0, a1, n0, s2, wipeOk, hl, hc, il, lt, hne]
end
end Sx

namespace Mx
/-! ### what is written, read again -/
theorem nv_num {n : Nat} (h : n ≤ 999) : nv (TL.numL n) = (n : Int) := by
  unfold nv
  have h1 : 1 ≤ (TL.numL n).length := by
    have := TL.numL_ne n
    cases hq : TL.numL n with
    | nil => exact absurd hq this
    | cons a b => simp
  have h2 : (TL.numL n).length ≤ 3 := TL.numL_len (by decide) (by omega)
  have h3 : (TL.numL n).all isDig = true := by
    rw [List.all_eq_true]
    intro c hc
    have := TL.numL_digits n c hc
    unfold isDig
    refine decide_eq_true ?_
    simp
    omega
  rw [if_pos ⟨h1, h2, h3⟩, TL.numL_val]
theorem sp_pair (p : Nat × Nat) : sp [58] (pTx p) = [TL.numL p.1, TL.numL p.2] := by
  have e : pTx p = TL.joinL [58] [TL.numL p.1, TL.numL p.2] := by unfold pTx; rfl
  rw [e]
  exact TL.spl_join (s := 58) (S := []) (by simp) fun q hq => by
    rcases List.mem_cons.mp hq with z | z
    · rw [z]; exact TL.numL_free (by omega)
    · rw [List.mem_singleton.mp z]; exact TL.numL_free (by omega)
theorem pTx_free {p : Nat × Nat} {s : Nat} (h : s < 48 ∨ 58 < s) : s ∉ pTx p := fun hm => by
  unfold pTx at hm
  rcases List.mem_append.mp hm with z | z
  · exact TL.numL_free (by omega) z
  · rcases List.mem_cons.mp z with z | z
    · omega
    · exact TL.numL_free (by omega) z
theorem sp_pairs {ps : List (Nat × Nat)} (h : ps ≠ []) : sp [32] (psTx ps) = ps.map pTx := by
  unfold psTx
  exact TL.spl_join (s := 32) (S := []) (fun z => h (List.map_eq_nil_iff.mp z)) fun q hq => by
    obtain ⟨p, _, rfl⟩ := List.mem_map.mp hq
    exact pTx_free (by omega)
end Mx
namespace Sx
open PySem PySem.Spec PyProof.Rows L2 Mx TL
theorem rpD_back {n m : Nat} {ps : List (Nat × Nat)} (k : POk n m ps) (hn : n ≤ 5) (hm : m ≤ 999) (h : ps ≠ []) : rpD (psTx ps) = prs ps := by
  unfold rpD
  rw [sp_pairs h, List.map_map]
  unfold prs
  congr 1
  refine List.map_congr_left fun p hp => ?_
  have hb := k.el p hp
  simp only [Function.comp]
  rw [sp_pair, List.map_cons, List.map_singleton, nv_num (by omega), nv_num (by omega)]
  rfl
end Sx

namespace Mx
theorem mem_joinL {s : List Nat} {c : Nat} : ∀ {ys : List (List Nat)}, c ∈ TL.joinL s ys → c ∈ s ∨ ∃ y ∈ ys, c ∈ y
  | [], h => by cases h
  | [y], h => .inr ⟨y, List.mem_cons_self, h⟩
  | y :: z :: r, h => by
    have h : c ∈ y ++ (s ++ TL.joinL s (z :: r)) := h
    rcases List.mem_append.mp h with q | q
    · exact .inr ⟨y, List.mem_cons_self, q⟩
    · rcases List.mem_append.mp q with q | q
      · exact .inl q
      · rcases mem_joinL q with q | ⟨w, hw, q⟩
        · exact .inl q
        · exact .inr ⟨w, List.mem_cons_of_mem _ hw, q⟩
theorem psTx_mem {ps : List (Nat × Nat)} {c : Nat} (h : c ∈ psTx ps) : c = 32 ∨ (48 ≤ c ∧ c ≤ 58) := by
  rcases mem_joinL h with q | ⟨y, hy, q⟩
  · exact .inl (List.mem_singleton.mp q)
  · obtain ⟨p, _, rfl⟩ := List.mem_map.mp hy
    refine .inr (Classical.byContradiction fun z => pTx_free (p := p) (s := c) (by omega) q)
theorem pre_up {p q : List Nat} (h : 117 ∉ p) (hq : q = [] ∨ q.head? = some 32) : ∀ i, i < p.length → TL.pre upTo' ((p ++ q).drop i) = false := fun i hi => by
  cases hp : TL.pre upTo' ((p ++ q).drop i) with
  | false => rfl
  | true =>
    exfalso
    unfold TL.pre at hp
    have hp : ((p ++ q).drop i).take 7 = upTo' := eq_of_beq hp
    have h1 : (((p ++ q).drop i).take 7)[1]? = some 117 := by rw [hp]; rfl
    rw [List.getElem?_take_of_lt (by decide), List.getElem?_drop] at h1
    by_cases hl : i + 1 < p.length
    · rw [List.getElem?_append_left hl] at h1
      exact h (List.mem_of_getElem? h1)
    · rw [List.getElem?_append_right (by omega), show i + 1 - p.length = 0 by omega] at h1
      rcases hq with z | z
      · rw [z] at h1; cases h1
      · rw [List.head?_eq_getElem?] at z
        rw [z] at h1; cases h1
/-- no colon ahead of a space -/
def NoCS (w : List Nat) : Prop := ∀ i, w[i]? = some 58 → ∃ d, w[i + 1]? = some d ∧ d ≠ 32
theorem NoCS.app {a b : List Nat} (ha : NoCS a) (hb : NoCS b) : NoCS (a ++ b) := fun i hi => by
  by_cases hl : i < a.length
  · rw [List.getElem?_append_left hl] at hi
    obtain ⟨d, h1, h2⟩ := ha i hi
    have : i + 1 < a.length := (List.getElem?_eq_some_iff.mp h1).1
    exact ⟨d, by rw [List.getElem?_append_left this]; exact h1, h2⟩
  · rw [List.getElem?_append_right (by omega)] at hi
    obtain ⟨d, h1, h2⟩ := hb _ hi
    exact ⟨d, by rw [List.getElem?_append_right (by omega), show i + 1 - a.length = i - a.length + 1 by omega]; exact h1, h2⟩
theorem NoCS.free {w : List Nat} (h : 58 ∉ w) : NoCS w := fun i hi => absurd (List.mem_of_getElem? hi) h
theorem NoCS.pair (p : Nat × Nat) : NoCS (pTx p) := by
  unfold pTx
  refine (NoCS.free (TL.numL_free (by omega))).app fun i hi => ?_
  cases i with
  | zero =>
    cases hq : TL.numL p.2 with
    | nil => exact absurd hq (TL.numL_ne _)
    | cons a b =>
      refine ⟨a, rfl, ?_⟩
      have := TL.numL_digits p.2 a (by rw [hq]; exact List.mem_cons_self)
      omega
  | succ i =>
    have hi : (TL.numL p.2)[i]? = some 58 := hi
    exact absurd (List.mem_of_getElem? hi) (TL.numL_free (by omega))
theorem NoCS.join {s : List Nat} (hs : NoCS s) : ∀ {ys : List (List Nat)}, (∀ y ∈ ys, NoCS y) → NoCS (TL.joinL s ys)
  | [], _ => fun i hi => by cases hi
  | [y], h => h y List.mem_cons_self
  | y :: z :: r, h => (h y List.mem_cons_self).app (hs.app (NoCS.join hs fun q hq => h q (List.mem_cons_of_mem _ hq)))
theorem NoCS.pairs (ps : List (Nat × Nat)) : NoCS (psTx ps) := NoCS.join (NoCS.free (by decide)) fun y hy => by
  obtain ⟨p, _, rfl⟩ := List.mem_map.mp hy
  exact NoCS.pair p
theorem NoCS.rung (r : Rung) : NoCS (rTx r) := by
  cases r with
  | fixed p => exact (NoCS.free (w := [102, 32]) (by decide)).app (NoCS.pairs p)
  | shares w c =>
    refine (NoCS.free (w := [115, 32]) (by decide)).app ((NoCS.pairs w).app ?_)
    split
    · exact fun i hi => by cases hi
    · exact (NoCS.free (w := upTo') (by decide)).app (NoCS.pairs c)
theorem NoCS.pre {w : List Nat} (h : NoCS w) : ∀ i, i < w.length → TL.pre [58, 32] (w.drop i) = false := fun i hi => by
  cases hp : TL.pre [58, 32] (w.drop i) with
  | false => rfl
  | true =>
    exfalso
    unfold TL.pre at hp
    have hp : (w.drop i).take 2 = [58, 32] := eq_of_beq hp
    have h0 : ((w.drop i).take 2)[0]? = some 58 := by rw [hp]; rfl
    have h1 : ((w.drop i).take 2)[1]? = some 32 := by rw [hp]; rfl
    rw [List.getElem?_take_of_lt (by decide), List.getElem?_drop] at h0 h1
    obtain ⟨d, h2, h3⟩ := h i h0
    rw [h1] at h2
    exact h3 (Option.some.inj h2).symm
theorem rTx_free {r : Rung} {c : Nat} (hc : c = 59) : c ∉ rTx r := fun hm => by
  have key : ∀ {ps : List (Nat × Nat)}, c ∈ psTx ps → False := fun h => by rcases psTx_mem h with z | z <;> omega
  cases r with
  | fixed p =>
    have hm : c ∈ [102, 32] ++ psTx p := hm
    rcases List.mem_append.mp hm with z | z
    · subst hc; exact absurd z (by decide)
    · exact key z
  | shares w cc =>
    have hm : c ∈ [115, 32] ++ (psTx w ++ if cc = [] then [] else upTo' ++ psTx cc) := hm
    rcases List.mem_append.mp hm with z | z
    · subst hc; exact absurd z (by decide)
    · rcases List.mem_append.mp z with z | z
      · exact key z
      · split at z
        · cases z
        · rcases List.mem_append.mp z with z | z
          · subst hc; exact absurd z (by decide)
          · exact key z
end Mx
namespace Sx
open PySem PySem.Spec PyProof.Rows L2 Mx TL
theorem rrD_back {n : Nat} {r : Rung} (k : r.Ok n) (hn : n ≤ 5) : rrD (rTx r) = rd r := by
  cases r with
  | fixed p =>
    unfold rrD
    rw [if_pos (show (rTx (.fixed p)).take 2 = [102, 32] from rfl)]
    have e : (rTx (.fixed p)).drop 2 = psTx p := rfl
    rw [e, rpD_back k.2 hn (by decide) k.1]
    rfl
  | shares w c =>
    have h117 : ∀ {ps : List (Nat × Nat)}, 117 ∉ psTx ps := fun hm => by rcases psTx_mem hm with z | z <;> omega
    unfold rrD
    rw [if_neg (show ¬ (rTx (.shares w c)).take 2 = [102, 32] from fun z => by cases z), if_pos (show (rTx (.shares w c)).take 2 = [115, 32] from rfl)]
    have e : (rTx (.shares w c)).drop 2 = psTx w ++ if c = [] then [] else upTo' ++ psTx c := rfl
    rw [e]
    by_cases hc : c = []
    · rw [if_pos hc, List.append_nil]
      have hs : sp upTo' (psTx w) = [psTx w] := TL.spl_last (acc := []) fun i hi => by
        have := pre_up (p := psTx w) (q := []) h117 (.inl rfl) i hi
        rw [List.append_nil] at this
        exact this
      rw [hs]
      simp only
      rw [rpD_back k.2.1 hn (by decide) k.1, hc]
      rfl
    · rw [if_neg hc]
      have hs : sp upTo' (psTx w ++ (upTo' ++ psTx c)) = [psTx w, psTx c] := by
        have h1 := TL.spl_part (S := upTo') (p := psTx w) (rest := psTx c) (acc := []) (by simp [upTo']) fun i hi => pre_up h117 (.inr rfl) i hi
        have h2 : TL.spl upTo' 0 [] (psTx c) = [psTx c] := TL.spl_last (acc := []) fun i hi => by
          have := pre_up (p := psTx c) (q := []) h117 (.inl rfl) i hi
          rw [List.append_nil] at this
          exact this
        show TL.spl upTo' 0 [] (psTx w ++ (upTo' ++ psTx c)) = _
        rw [h1, h2]; rfl
      rw [hs]
      simp only
      rw [rpD_back k.2.1 hn (by decide) k.1, rpD_back k.2.2.1 hn (by decide) hc]
      rfl
theorem foD_back {l : Lad} (k : l.Ok) : foD (lTx l) = ld l := by
  have n5 := k.n5
  have hne : l.rs.map rTx ≠ [] := fun z => k.r1 (List.map_eq_nil_iff.mp z)
  have hs : sp [58, 32] (lTx l) = [TL.numL l.n, joinL [59, 32] (l.rs.map rTx)] := by
    have h1 := TL.spl_part1 (s := 58) (S := [32]) (p := TL.numL l.n) (rest := joinL [59, 32] (l.rs.map rTx)) (acc := []) (TL.numL_free (by omega))
    have h2 : TL.spl [58, 32] 0 [] (joinL [59, 32] (l.rs.map rTx)) = [joinL [59, 32] (l.rs.map rTx)] := TL.spl_last (acc := []) (NoCS.pre (NoCS.join (NoCS.free (by decide)) fun y hy => by
      obtain ⟨r, _, rfl⟩ := List.mem_map.mp hy
      exact NoCS.rung r))
    show TL.spl [58, 32] 0 [] (TL.numL l.n ++ (58 :: [32] ++ joinL [59, 32] (l.rs.map rTx))) = _
    rw [h1, h2]; rfl
  have hr : sp [59, 32] (joinL [59, 32] (l.rs.map rTx)) = l.rs.map rTx := TL.spl_join (s := 59) (S := [32]) hne fun q hq => by
    obtain ⟨r, _, rfl⟩ := List.mem_map.mp hq
    exact rTx_free rfl
  unfold foD sides0 sidesL
  rw [hs]
  have e1 : ([TL.numL l.n, joinL [59, 32] (l.rs.map rTx)] : List (List Nat)).headD [] = TL.numL l.n := rfl
  have e2 : (([TL.numL l.n, joinL [59, 32] (l.rs.map rTx)] : List (List Nat)).getLast?).getD [] = joinL [59, 32] (l.rs.map rTx) := rfl
  rw [e1, e2, hr, List.map_map, nv_num (by omega)]
  show PyData.tuple [.int (l.n : Int), .tuple (l.rs.map (rrD ∘ rTx))] = PyData.tuple [.int (l.n : Int), .tuple (l.rs.map rd)]
  rw [List.map_congr_left (f := rrD ∘ rTx) (g := rd) fun r hr => rrD_back (k.ok r hr) n5]
theorem asc_line {l : Lad} : Asc8 (lTx l) := fun c hc => by
  have key : ∀ {ps : List (Nat × Nat)}, c ∈ psTx ps → c < 1000 := fun h => by rcases psTx_mem h with z | z <;> omega
  have num : ∀ {n : Nat}, c ∈ TL.numL n → c < 1000 := fun {n} h => by have := TL.numL_digits n c h; omega
  have con : ∀ {w : List Nat}, w.all (fun c => decide (c < 1000)) = true → c ∈ w → c < 1000 := fun h hm => by
    have := List.all_eq_true.mp h c hm
    exact of_decide_eq_true this
  have hc : c ∈ TL.numL l.n ++ ([58, 32] ++ joinL [59, 32] (l.rs.map rTx)) := hc
  rcases List.mem_append.mp hc with z | z
  · exact num z
  · rcases List.mem_append.mp z with z | z
    · exact con (by decide) z
    · rcases mem_joinL z with z | ⟨y, hy, z⟩
      · exact con (by decide) z
      · obtain ⟨r, _, rfl⟩ := List.mem_map.mp hy
        cases r with
        | fixed p =>
          have z : c ∈ [102, 32] ++ psTx p := z
          rcases List.mem_append.mp z with z | z
          · exact con (by decide) z
          · exact key z
        | shares w cc =>
          have z : c ∈ [115, 32] ++ (psTx w ++ if cc = [] then [] else upTo' ++ psTx cc) := z
          rcases List.mem_append.mp z with z | z
          · exact con (by decide) z
          · rcases List.mem_append.mp z with z | z
            · exact key z
            · split at z
              · cases z
              · rcases List.mem_append.mp z with z | z
                · exact con (by decide) z
                · exact key z
/-- the round trip -/
theorem parse_back {l : Lad} (k : l.Ok) : F_X_parse_ladder [.str (mkS (lTx l))] = .ok (ld l) := by
  have h := parse_true (z := lTx l) (Nat.le_trans (lTx_len k) (by decide)) asc_line k (foD_back k) asc_line
  rw [if_pos rfl] at h
  exact h
end Sx

namespace Sx
open PySem PySem.Spec PyProof.Rows L2

def lB_sum_of_1 : SS :=
    (sAsg 1 (eCall 2 F_plus (aCons (eVar 1) (aCons (eVar 2) aNil))))
def B_sum_of : SS :=
    (sSeq (sAsg 1 (eC (PyData.tuple [.int 0, .int 1])))
    (sSeq (sFor (iSeq (eVar 0)) (gN 2) lB_sum_of_1)
    (sRet (eVar 1))))
def F_sum_of := runP 3 B_sum_of




end Sx

namespace Sx
open PySem PySem.Spec PyProof.Rows L2
/-! sessions: what the methods compute (no exceptions) -/
def F_total (L : Dt) (D U : List Dt) : Res Dt := loF (F_sum_of [.list D])
def F_paid (L : Dt) (D U : List Dt) : Res Dt := match F_total L D U with
  | .ok t => F_all_payments [L, t]
  | _ => .bad
def ePut : SE := (eCB tupleD (aCons (eFrz (lComp (iZip' (aCons (eQ 0 F_paid) (aCons (eVar 2) aNil))) (gTu 2 (gsCons (gN 4) (gsCons (gN 5) gsNil))) bYes (eCall 2 F_minus (aCons (eVar 4) (aCons (eVar 5) aNil))) [4, 5])) aNil))
theorem ix_last {xs : List Dt} {x : Dt} : ixD (.list (xs ++ [x])) (.int (-1)) = some x := by
  show atI (xs ++ [x]) (-1) = some x
  unfold atI ixN
  rw [if_neg (by decide), List.length_append, List.length_singleton, if_pos (by omega)]
  show (xs ++ [x])[((-1 : Int) + ((xs.length + 1 : Nat) : Int)).toNat]? = some x
  rw [show ((-1 : Int) + ((xs.length + 1 : Nat) : Int)).toNat = xs.length by omega]
  simp
theorem dq_last {K : PySem.W.Frag} {F : Hp} {vs : List V} {ds : List Dt} {x : Dt} (h : DqAll K F vs ds) (e : ds.getLast? = some x) : ∃ y, vs[vs.length - 1]? = some y ∧ Dq K F y x := by
  rw [List.getLast?_eq_getElem?] at e
  rw [h.length]
  exact h.getD e
theorem dq_dropLast {K : PySem.W.Frag} {F : Hp} {vs : List V} {ds : List Dt} (h : DqAll K F vs ds) : DqAll K F vs.dropLast ds.dropLast := by
  rw [List.dropLast_eq_take, List.dropLast_eq_take, h.length]
  exact h.take _
end Sx

namespace Sx
open PySem PySem.Spec PyProof.Rows L2
/-! sessions: what the methods compute, with their exceptions -/
def F_X_put (L : Dt) (D U ds : List Dt) : Res (Dt × SV) := match ds with
  | [x] => match F_X_check_amount [x] with
    | .exc c => .exc c
    | .bad => .bad
    | .ok _ => match F_paid L D U, F_total L D U with
      | .ok b, .ok t => match F_plus [t, x] with
        | .ok w => match F_is_amount [w] with
          | .ok (.bool true) => if D.length ≤ 100000 then (match ePut [some (.se L (D ++ [x]) []), some (.d x), some (.d b), some (.d w), none, none] none with
            | .ok p => .ok (p.1, .se L (D ++ [x]) [])
            | _ => .bad) else .bad
          | .ok (.bool false) => .exc "TooMuch"
          | _ => .bad
        | _ => .bad
      | _, _ => .bad
  | _ => .bad
def F_X_undo (L : Dt) (D U ds : List Dt) : Res (Dt × SV) := match ds, eqD (.list D) (.list []), D.getLast? with
  | [], some (.bool false), some x => if U.length ≤ 100000 then .ok (x, .se L D.dropLast (U ++ [x])) else .bad
  | [], some (.bool true), _ => .exc "NothingToUndo"
  | _, _, _ => .bad
def F_X_redo (L : Dt) (D U ds : List Dt) : Res (Dt × SV) := match ds, eqD (.list U) (.list []), U.getLast? with
  | [], some (.bool false), some x => if D.length ≤ 100000 then .ok (x, .se L (D ++ [x]) U.dropLast) else .bad
  | [], some (.bool true), _ => .exc "NothingToUndo"
  | _, _, _ => .bad
def F_X_init (L : Dt) : Res SV := match F_X_check_ladder [L] with
  | .ok _ => .ok (.se L [] [])
  | .exc c => .exc c
  | .bad => .bad
def F_len (L : Dt) (D U : List Dt) : Res Dt := if D.length ≤ 100000 then .ok (.int (D.length : Int)) else .bad
def twoI : Dt → Option (Int × Int)
  | .tuple [.int a, .int b] => some (a, b)
  | _ => none
theorem twoI_eq {t : Dt} {p : Int × Int} (h : twoI t = some p) : t = .tuple [.int p.1, .int p.2] := by
  unfold twoI at h
  split at h
  · cases h; rfl
  · cases h
def F_str (L : Dt) (D U : List Dt) : Res Dt := match F_total L D U with
  | .ok t => match twoI t with
   | none => .bad
   | some (a, b) => if D.length ≤ 1000 ∧ a.natAbs.log2 < 1920 ∧ b.natAbs.log2 < 1920 ∧ (((((Str.empty ++ toString (D.length : Int)) ++ " amounts, ") ++ toString a) ++ "/") ++ toString b ++ " in all").length ≤ 90000 then
    .ok (.str (((((Str.empty ++ toString (D.length : Int)) ++ " amounts, ") ++ toString a) ++ "/") ++ toString b ++ " in all")) else .bad
  | _ => .bad
end Sx

namespace Sx
open PySem PySem.Spec PyProof.Rows L2 Mx TL
/-! ### sessions: what the methods compute -/
@[simp] theorem eQ_s {i : Nat} {Fs : Dt → List Dt → List Dt → Res Dt} {ρ : Sl} {W : Tw} : eQ i Fs ρ W = (match ρ[i]? with
  | some (some (.se L D U)) => resT (Fs L D U) W
  | _ => .bad) := rfl
/-- the sum of some amounts -/
def sumR (qs : List Rat) : Rat := qs.foldl (fun a b => a + b) 0
theorem sumR_snoc (qs : List Rat) (q : Rat) : sumR (qs ++ [q]) = sumR qs + q := by
  unfold sumR; rw [List.foldl_append]; rfl
/-- few bits on the way -/
def SumB (qs : List Rat) : Prop := (∀ q ∈ qs, Bd 4000 q) ∧ ∀ j, Bd 4000 (sumR (qs.take j))
theorem sum_loop_of : ∀ (qs : List Rat) (a : Rat) (x0 x2 : Option SV), (∀ q ∈ qs, Bd 4000 q) → (∀ j, Bd 4000 ((qs.take j).foldl (fun a b => a + b) a)) →
    ∃ y2, fL (gN 2) lB_sum_of_1 (qs.map fr) [x0, some (.d (fr a)), x2] none = .nx [x0, some (.d (fr (qs.foldl (fun a b => a + b) a))), y2] none
  | [], a, x0, x2, _, _ => ⟨x2, rfl⟩
  | q :: qs, a, x0, x2, hq, hb => by
    have h1 := plus_ok (hb 0) (hq q (by simp))
    have h1 : F_plus [fr a, fr q] = .ok (fr (a + q)) := h1
    obtain ⟨y2, ih⟩ := sum_loop_of qs (a + q) x0 (some (.d (fr q))) (fun r hr => hq r (List.mem_cons_of_mem _ hr)) fun j => hb (j + 1)
    refine ⟨y2, ?_⟩
    rw [List.map_cons, fL_step (ρ1 := [x0, some (.d (fr a)), some (.d (fr q))]) rfl (ρ2 := [x0, some (.d (fr (a + q))), some (.d (fr q))]) (W2 := none) (by
      generalize fr a = A at *
      generalize fr q = B at *
      simp [lB_sum_of_1, h1])]
    exact ih
theorem sum_of_ok {qs : List Rat} (h : SumB qs) : F_sum_of [.list (qs.map fr)] = .ok (fr (sumR qs)) := by
  obtain ⟨y2, e⟩ := sum_loop_of qs 0 (some (.d (.list (qs.map fr)))) none h.1 h.2
  have e : fL (gN 2) lB_sum_of_1 (qs.map fr) [some (.d (.list (qs.map fr))), some (.d (.tuple [.int 0, .int 1])), none] none = .nx [some (.d (.list (qs.map fr))), some (.d (fr (sumR qs))), y2] none := e
  unfold F_sum_of
  simp only [B_sum_of]
  generalize qs.map fr = Z at *
  generalize fr (sumR qs) = S at *
  simp [e]
theorem lf_fr (q : Rat) : lfD (fr q) = true := rfl
section
variable {l : Lad} {qs : List Rat} {U : List Dt}
theorem total_s (h : SumB qs) : F_total (ld l) (qs.map fr) U = .ok (fr (sumR qs)) := by
  unfold F_total
  rw [sum_of_ok h]
  show (if lfD (fr (sumR qs)) = true then Res.ok (fr (sumR qs)) else .bad) = _
  rw [if_pos (lf_fr _)]
/-- a session's amounts -/
structure SesOk (qs : List Rat) : Prop where
  b : SumB qs
  nn : 0 ≤ sumR qs
  bd : Bd 700 (sumR qs)
theorem paid_s (k : l.Ok) (h : SesOk qs) : F_paid (ld l) (qs.map fr) U = .ok (.tuple (rtL l.n (l.T (sumR qs)))) := by
  unfold F_paid
  rw [total_s h.b]
  exact all_payments_ok k h.nn h.bd (by decide)
theorem put_last (k : l.Ok) {q : Rat} (h : SesOk qs) (h' : SesOk (qs ++ [q])) {w : Dt} : ePut [some (.se (ld l) (qs.map fr ++ [fr q]) []), some (.d (fr q)), some (.d (.tuple (rtL l.n (l.T (sumR qs))))), some (.d w), none, none] none =
    .ok (.tuple (rtL l.n fun h => l.T (sumR (qs ++ [q])) h - l.T (sumR qs) h), none) := by
  have h5 := k.n5
  have hp := paid_s (U := []) k h'
  rw [List.map_append] at hp
  have hp : F_paid (ld l) (qs.map fr ++ [fr q]) [] = .ok (.tuple (rtL l.n (l.T (sumR (qs ++ [q]))))) := hp
  have hc : ∀ x0 x1 x2 x3 : Option SV, cL (gTu 2 (gsCons (gN 4) (gsCons (gN 5) gsNil))) bYes (eCall 2 F_minus (aCons (eVar 4) (aCons (eVar 5) aNil))) [x0, x1, x2, x3, none, none] ((List.range l.n).map fun h => PyData.tuple [fr (l.T (sumR (qs ++ [q])) h), fr (l.T (sumR qs) h)]) none = .ok (rtL l.n fun h => l.T (sumR (qs ++ [q])) h - l.T (sumR qs) h, none) := fun x0 x1 x2 x3 => by
    unfold rtL
    refine cL_map (fun h => PyData.tuple [fr (l.T (sumR (qs ++ [q])) h), fr (l.T (sumR qs) h)]) _ _ fun i hi => ⟨_, by simp; rfl, ?_⟩
    have hi := List.mem_range.mp hi
    have b1 := (pay_one k hi h.nn h.bd (by decide)).2
    have b2 := (pay_one k hi h'.nn h'.bd (by decide)).2
    have := minus_ok (b2.mono (show 700 + 63 ≤ 4000 by decide)) (b1.mono (show 700 + 63 ≤ 4000 by decide))
    simp [this]
  unfold ePut
  generalize ld l = L at *
  generalize qs.map fr ++ [fr q] = Z at *
  simp [eQ_s, hp, zip_rtL, wipeOk, show l.n ≤ 100000 by omega, hc]
end
/-! parse_ladder without exceptions -/
end Sx

namespace Sx
open PySem PySem.Spec PyProof.Rows L2 Mx TL
/-! ### the results of many functions -/
theorem add_l {xs ys : List Dt} (h : xs.length + ys.length ≤ 100000) : addD (.list xs) (.list ys) = some (.list (xs ++ ys)) := by
  show (if xs.length + ys.length ≤ 100000 then some (PyData.list (xs ++ ys)) else none) = _
  rw [if_pos h]
/-! all of it may be compared -/
theorem Gq.rt {k n : Nat} {f : Nat → Rat} : Gq (k + 2) (.tuple (rtL n f)) := .tup (.map fun h _ => .flt (by cases k <;> rfl))
theorem Gq.fr {k : Nat} {q : Rat} : Gq (k + 1) (fr q) := .flt (by cases k <;> rfl)
end Sx

namespace Sx
open PySem PySem.Spec PyProof.Rows L2 Mx TL
/-! ### amounts with denominators of 1, 2, 4, 5 -/
def T20 (k : Nat) (q : Rat) : Prop := ∃ m : Nat, m ≤ k ∧ q = mkRat m 20
theorem mk20 (m : Nat) : mkRat m 20 = (m : Rat) / 20 := by
  rw [Rat.mkRat_eq_div]
  rfl
theorem T20.add {a b : Nat} {x y : Rat} (hx : T20 a x) (hy : T20 b y) : T20 (a + b) (x + y) := by
  obtain ⟨m, h1, rfl⟩ := hx
  obtain ⟨n, h2, rfl⟩ := hy
  refine ⟨m + n, by omega, ?_⟩
  rw [mk20, mk20, mk20]
  have : ((m + n : Nat) : Rat) = (m : Rat) + (n : Rat) := by push_cast; rfl
  rw [this]
  grind
theorem T20.mono {a b : Nat} {x : Rat} (hx : T20 a x) (h : a ≤ b) : T20 b x := by
  obtain ⟨m, h1, e⟩ := hx
  exact ⟨m, by omega, e⟩
theorem T20.zero {k : Nat} : T20 k 0 := ⟨0, Nat.zero_le _, by decide⟩
theorem T20.amt {k : Nat} {x : Rat} (hx : T20 k x) (hk : k ≤ 20000000) : Amt x := by
  obtain ⟨m, h1, rfl⟩ := hx
  refine ⟨?_, ?_, ?_⟩
  · rw [mk20]
    have : (0 : Rat) ≤ (m : Rat) := Rat.natCast_nonneg
    grind
  · rw [mk20]
    have : (m : Rat) ≤ (20000000 : Nat) := by exact_mod_cast (Nat.le_trans h1 hk)
    have e : ((20000000 : Nat) : Rat) = 20000000 := rfl
    rw [e] at this
    grind
  · rw [Rat.den_mkRat]
    exact Nat.le_trans (Nat.div_le_self _ _) (by decide)
theorem frac20 {d b : Nat} (hd : d < 400) (hb : b = 1 ∨ b = 2 ∨ b = 4 ∨ b = 5) : T20 8000 (mkRat d b) := by
  rcases hb with rfl | rfl | rfl | rfl
  · refine ⟨20 * d, by omega, ?_⟩
    rw [Rat.mkRat_eq_div, Rat.mkRat_eq_div]
    push_cast
    grind
  · refine ⟨10 * d, by omega, ?_⟩
    rw [Rat.mkRat_eq_div, Rat.mkRat_eq_div]
    push_cast
    grind
  · refine ⟨5 * d, by omega, ?_⟩
    rw [Rat.mkRat_eq_div, Rat.mkRat_eq_div]
    push_cast
    grind
  · refine ⟨4 * d, by omega, ?_⟩
    rw [Rat.mkRat_eq_div, Rat.mkRat_eq_div]
    push_cast
    grind
/-- amounts of a session -/
def A20 (qs : List Rat) : Prop := ∀ q ∈ qs, T20 8000 q
theorem fold20 : ∀ (qs : List Rat) (a : Rat) (k : Nat), A20 qs → T20 k a → T20 (k + 8000 * qs.length) (qs.foldl (fun a b => a + b) a)
  | [], a, k, _, h => h
  | q :: qs, a, k, hq, h => by
    have := fold20 qs (a + q) (k + 8000) (fun r hr => hq r (List.mem_cons_of_mem _ hr)) (h.add (hq q (by simp)))
    refine this.mono ?_
    rw [List.length_cons]
    omega
theorem sum20 {qs : List Rat} (h : A20 qs) : T20 (8000 * qs.length) (sumR qs) := by
  have := fold20 qs 0 0 h .zero
  rw [Nat.zero_add] at this
  exact this
theorem ses20 {qs : List Rat} (h : A20 qs) (hl : qs.length ≤ 100) : SesOk qs := by
  have hb : ∀ {x : Rat} {k : Nat}, T20 k x → k ≤ 800000 → Bd 30 x := fun hx hk => (hx.amt (by omega)).bd
  refine ⟨⟨fun q hq => (hb (h q hq) (by decide)).mono (by decide), fun j => ?_⟩, ((sum20 h).amt (by omega)).nn, (hb (sum20 h) (by omega)).mono (by decide)⟩
  have h2 : A20 (qs.take j) := fun q hq => h q (List.mem_of_mem_take hq)
  have hlt : (qs.take j).length ≤ 100 := by rw [List.length_take]; omega
  exact (hb (sum20 h2) (by omega)).mono (by decide)
theorem A20.snoc {qs : List Rat} {q : Rat} (h : A20 qs) (hq : T20 8000 q) : A20 (qs ++ [q]) := fun r hr => by
  rcases List.mem_append.mp hr with z | z
  · exact h r z
  · rw [List.mem_singleton.mp z]; exact hq
theorem A20.left {qs : List Rat} {q : Rat} (h : A20 (qs ++ [q])) : A20 qs ∧ T20 8000 q := ⟨fun r hr => h r (List.mem_append_left _ hr), h q (by simp)⟩
theorem A20.nil : A20 [] := fun q hq => by cases hq
/-! the law's own sum -/
/-! what is raised -/
theorem nm_undo : F__law_name "NothingToUndo" = .ok (.int 12) := by kernel_rfl
theorem in_undo : ("NothingToUndo" : Str) ∈ excN := by decide +kernel
/-! the methods with their exceptions -/
theorem eq_nil {xs : List Dt} : eqD (.list []) (.list []) = some (.bool true) := by kernel_rfl
theorem gq_frs {k : Nat} {qs : List Rat} : Gq (k + 2) (.list (qs.map fr)) := .lst (.map fun q _ => .fr)
theorem eq_cons {qs : List Rat} (h : qs ≠ []) : eqD (.list (qs.map fr)) (.list []) = some (.bool false) := by
  have g1 := Gq.sh (gq_frs (k := 0) (qs := qs)) (by decide)
  have g2 : SeqAt.shaped (.list []) = true := by kernel_rfl
  unfold eqD
  rw [g1, g2, if_pos (by decide)]
  cases qs with
  | nil => exact absurd rfl h
  | cons q qs => rfl
section
variable {L : Dt} {qs us : List Rat} {x : Rat}
theorem last_map : ((qs ++ [x]).map fr).getLast? = some (fr x) := by rw [List.map_append]; simp
theorem drop_map : ((qs ++ [x]).map fr).dropLast = qs.map fr := by rw [List.map_append]; simp
theorem undo_some (hl : us.length ≤ 1000) : F_X_undo L ((qs ++ [x]).map fr) (us.map fr) [] = .ok (fr x, .se L (qs.map fr) ((us ++ [x]).map fr)) := by
  unfold F_X_undo
  rw [eq_cons (by simp), last_map]
  simp only
  rw [if_pos (by rw [List.length_map]; omega), drop_map, List.map_append]
  rfl
theorem undo_none : F_X_undo L [] (us.map fr) [] = .exc "NothingToUndo" := by
  unfold F_X_undo
  rw [eq_nil (xs := [])]
theorem redo_some (hl : qs.length ≤ 1000) : F_X_redo L (qs.map fr) ((us ++ [x]).map fr) [] = .ok (fr x, .se L ((qs ++ [x]).map fr) (us.map fr)) := by
  unfold F_X_redo
  rw [eq_cons (by simp), last_map]
  simp only
  rw [if_pos (by rw [List.length_map]; omega), drop_map, List.map_append]
  rfl
theorem redo_none : F_X_redo L (qs.map fr) [] [] = .exc "NothingToUndo" := by
  unfold F_X_redo
  rw [eq_nil (xs := [])]
end
section
variable {l : Lad} {qs : List Rat} {U : List Dt}
theorem put_sX (k : l.Ok) {q : Rat} (h : SesOk qs) (h' : SesOk (qs ++ [q])) (hq : Amt q) (hs : Amt (sumR (qs ++ [q]))) (hl : qs.length ≤ 1000) : F_X_put (ld l) (qs.map fr) U [fr q] = .ok (.tuple (rtL l.n fun h => l.T (sumR (qs ++ [q])) h - l.T (sumR qs) h), .se (ld l) ((qs ++ [q]).map fr) []) := by
  have h1 := le_X_check_amount.ok (check_amount_ok hq)
  have h2 := paid_s (U := U) k h
  have h3 := total_s (l := l) (U := U) h.b
  have h4 := plus_ok (h.bd.mono (show 700 ≤ 4000 by decide)) (hq.bd.mono (show 30 ≤ 4000 by decide))
  rw [← sumR_snoc] at h4
  have h5 := is_amount_ok hs
  have h6 := put_last k h h' (w := fr (sumR (qs ++ [q])))
  unfold F_X_put
  simp only [h1, h2, h3, h4, h5]
  rw [if_pos (by rw [List.length_map]; omega), h6, List.map_append]
  rfl
theorem init_X (k : l.Ok) : F_X_init (ld l) = .ok (.se (ld l) [] []) := by
  have h1 := le_X_check_ladder.ok (check_ladder_ok k)
  unfold F_X_init
  rw [h1]
end
end Sx

namespace Sx
open PySem PySem.Spec PyProof.Rows L2 Mx TL
/-! ### a session as a text -/
def txS (n a b : Nat) : Str := ((((Str.empty ++ toString (n : Int)) ++ " amounts, ") ++ toString (a : Int)) ++ "/") ++ toString (b : Int) ++ " in all"
def sA : List Nat := [32, 97, 109, 111, 117, 110, 116, 115, 44, 32]
def sB : List Nat := [32, 105, 110, 32, 97, 108, 108]
theorem sA_eq : (" amounts, " : Str) = mkS sA := by kernel_rfl
theorem sB_eq : (" in all" : Str) = mkS sB := by kernel_rfl
theorem sl_eq : ("/" : Str) = mkS [47] := by kernel_rfl
theorem se_eq : Str.empty = mkS [] := by kernel_rfl
def txL (n a b : Nat) : List Nat := ((((TL.numL n ++ sA) ++ TL.numL a) ++ [47]) ++ TL.numL b) ++ sB
theorem txS_eq {n a b : Nat} : txS n a b = mkS (txL n a b) := by
  unfold txS txL
  rw [str_num, str_num, str_num, sA_eq, sB_eq, sl_eq, se_eq]
  simp only [mkS_app, List.nil_append]
theorem numL_le {n : Nat} (h : n < 10 ^ 10) : (TL.numL n).length ≤ 10 := TL.numL_len (by decide) h
theorem txL_len {n a b : Nat} (hn : n < 10 ^ 10) (ha : a < 10 ^ 10) (hb : b < 10 ^ 10) : (txL n a b).length ≤ 100 := by
  have h1 := numL_le hn
  have h2 := numL_le ha
  have h3 := numL_le hb
  have h4 : sA.length = 10 := rfl
  have h5 : sB.length = 7 := rfl
  unfold txL
  simp only [List.length_append, List.length_singleton]
  omega
theorem txL_asc {n a b : Nat} : Asc8 (txL n a b) := fun c hc => by
  have hn : ∀ {m : Nat}, c ∈ TL.numL m → c < 1000 := fun {m} h => by have := TL.numL_digits m c h; omega
  have hA : ∀ {w : List Nat}, w.all (fun c => decide (c < 1000)) = true → c ∈ w → c < 1000 := fun h hm => of_decide_eq_true (List.all_eq_true.mp h c hm)
  unfold txL at hc
  rcases List.mem_append.mp hc with z | z
  · rcases List.mem_append.mp z with z | z
    · rcases List.mem_append.mp z with z | z
      · rcases List.mem_append.mp z with z | z
        · rcases List.mem_append.mp z with z | z
          · exact hn z
          · exact hA (by decide) z
        · exact hn z
      · exact hA (by decide) z
    · exact hn z
  · exact hA (by decide) z
theorem log_sm10 {n : Nat} (h : n < 10 ^ 10) : ((n : Int)).natAbs.log2 < 1920 := by
  rw [Int.natAbs_natCast]
  by_cases h0 : n = 0
  · subst h0; decide
  · rw [Nat.log2_lt h0]
    exact Nat.lt_of_lt_of_le h (Nat.le_trans (show 10 ^ 10 ≤ 2 ^ 40 by decide) (Nat.pow_le_pow_right (by decide) (by decide)))
theorem fmt_natS {n : Nat} (h : n < 10 ^ 10) : fmtD (.int (n : Int)) = some (toString (n : Int) : Str) := by
  show (if ((n : Int)).natAbs.log2 < 1920 then some (toString (n : Int) : Str) else none) = _
  rw [if_pos (log_sm10 h)]
theorem str_s {l : Lad} {qs : List Rat} {U : List Dt} {a b : Nat} (h : SesOk qs) (hl : qs.length ≤ 1000) (e : fr (sumR qs) = .tuple [.int (a : Int), .int (b : Int)]) (ha : a < 10 ^ 10) (hb : b < 10 ^ 10) : F_str (ld l) (qs.map fr) U = .ok (.str (txS qs.length a b)) := by
  have h3 := total_s (l := l) (U := U) h.b
  have hlen : (txS qs.length a b).length ≤ 90000 := by
    rw [txS_eq, mkS_len]
    exact Nat.le_trans (txL_len (Nat.lt_of_le_of_lt hl (by decide)) ha hb) (by decide)
  unfold F_str
  rw [h3, e]
  show (if (qs.map fr).length ≤ 1000 ∧ ((a : Int)).natAbs.log2 < 1920 ∧ ((b : Int)).natAbs.log2 < 1920 ∧ (txS (qs.map fr).length a b).length ≤ 90000 then Res.ok (PyData.str (txS (qs.map fr).length a b)) else .bad) = _
  rw [List.length_map, if_pos ⟨hl, log_sm10 ha, log_sm10 hb, hlen⟩]
theorem ne_tx {n a b : Nat} : neD (.str (txS n a b)) (.str (txS n a b)) = some (.bool false) := by
  rw [txS_eq]
  have h := ne_mk (txL_asc (n := n) (a := a) (b := b)) (txL_asc (n := n) (a := a) (b := b))
  rw [decide_eq_true rfl] at h
  exact h
/-- the numbers of a sum -/
theorem sum_nums {qs : List Rat} (h : A20 qs) (hl : qs.length ≤ 100) : ∃ a b : Nat, fr (sumR qs) = .tuple [.int (a : Int), .int (b : Int)] ∧ a < 10 ^ 10 ∧ b < 10 ^ 10 := by
  have hA := (sum20 h).amt (show 8000 * qs.length ≤ 20000000 by omega)
  have hb := hA.bd
  refine ⟨(sumR qs).num.natAbs, (sumR qs).den, ?_, Nat.lt_of_lt_of_le hb.1 (by decide), Nat.lt_of_lt_of_le hb.2 (by decide)⟩
  have : 0 ≤ (sumR qs).num := Rat.num_nonneg.mpr hA.nn
  unfold fr
  rw [Int.natAbs_of_nonneg this]
end Sx

namespace Sx
open PySem PySem.Spec PyProof.Rows L2

def cE_save_1 : SE :=
    (eFst (jE (eBin ixD (eVar 2) (eC (.int 0))) (jE (eC (.str "/")) (jE (eBin ixD (eVar 2) (eC (.int 1))) jNil))))
def cE_save_2 : SE :=
    (eFst (jE (eC (.str "?")) (jE (eBin ixD (eVar 2) (eC (.int 0))) (jE (eC (.str "/")) (jE (eBin ixD (eVar 2) (eC (.int 1))) jNil)))))
def B_save : SS :=
    (sSeq (sOwn 1 (lComp (iSeq (eFldD 0)) (gN 2) bYes cE_save_1 [2]))
    (sSeq (sExt 1 (lComp (iSeq (eFrz (lRev (eFldU 0)))) (gN 2) bYes cE_save_2 [2]))
    (sRet (eBin addD (eTm joinD (eC (.str "|")) (eBin addD (eFrz (lLst (aCons (eCall 1 F_ladder_text (aCons (eFldL 0) aNil)) aNil))) (eBor 1))) (eC (.str "."))))))
def F_save := runQ 3 B_save

def lB_load_1 : SS :=
    (sSeq (sAug 4 (eCB intD (aCons (eBin eqD (eSlice (eVar 5) oNone (oSome (eC (.int 1)))) (eC (.str "?"))) aNil)))
    (sSeq (sAsgG (gLs 2 (gsCons (gN 7) (gsCons (gN 8) gsNil))) (eFrz (lTm splitD (eUn (replD "?" "") (eVar 5)) (eC (.str "/")))))
    (sExprX (xMeth 3 1 F_X_put (aCons (eTup (aCons (eCB intTD (aCons (eVar 7) aNil)) (aCons (eCB intTD (aCons (eVar 8) aNil)) aNil))) aNil)))))
def lB_load_2 : SS :=
    (sExprX (xMeth 3 0 F_X_undo aNil))
def B_load : SS :=
    (sSeq (sIf (bOr (bNot (bOf (eUn (isiD "str") (eVar 0)))) (bOf (eBin neD (eSlice (eVar 0) (oSome (eUn negD (eC (.int 1)))) oNone) (eC (.str "."))))) (sRaise "InvalidText") sPass)
    (sSeq (sStar 1 2 (lTm splitD (eSlice (eVar 0) oNone (oSome (eUn negD (eC (.int 1))))) (eC (.str "|"))))
    (sSeq (sNewS 3 F_X_init (eCallX 1 F_X_parse_ladder (aCons (eVar 1) aNil)))
    (sSeq (sAsg 4 (eC (.int 0)))
    (sSeq (sFor (iSeq (eVar 2)) (gN 5) lB_load_1)
    (sSeq (sFor (iRng (aCons (eVar 4) aNil)) (gN 6) lB_load_2)
    (sRetS 3)))))))
def F_load := runS 9 B_load

end Sx

namespace Sx
open PySem PySem.Spec PyProof.Rows L2 Mx TL
/-! ### saved sessions: the texts -/
def na (q : Rat) : Nat := q.num.natAbs
def aTx (q : Rat) : List Nat := TL.numL (na q) ++ 47 :: TL.numL q.den
def uTx (q : Rat) : List Nat := 63 :: aTx q
def rowsT (qs us : List Rat) : List (List Nat) := qs.map aTx ++ us.reverse.map uTx
def sTx0 (l : Lad) (qs us : List Rat) : List Nat := TL.joinL [124] (lTx l :: rowsT qs us)
def sTx (l : Lad) (qs us : List Rat) : List Nat := sTx0 l qs us ++ [46]
theorem fr_nat {q : Rat} (h : Amt q) : fr q = .tuple [.int ((na q : Nat) : Int), .int ((q.den : Nat) : Int)] := by
  have : 0 ≤ q.num := Rat.num_nonneg.mpr h.nn
  unfold fr na
  rw [Int.natAbs_of_nonneg this]
theorem na_lt {q : Rat} (h : Amt q) : na q < 10 ^ 10 ∧ q.den < 10 ^ 10 := ⟨Nat.lt_of_lt_of_le h.bd.1 (by decide), Nat.lt_of_lt_of_le h.bd.2 (by decide)⟩
theorem aTx_len {q : Rat} (h : Amt q) : (aTx q).length ≤ 21 := by
  have h1 := numL_le (na_lt h).1
  have h2 := numL_le (na_lt h).2
  unfold aTx
  rw [List.length_append, List.length_cons]
  omega
theorem aTx_mem {q : Rat} {c : Nat} (h : c ∈ aTx q) : 47 ≤ c ∧ c ≤ 57 := by
  unfold aTx at h
  rcases List.mem_append.mp h with z | z
  · have := TL.numL_digits _ c z; omega
  · rcases List.mem_cons.mp z with z | z
    · omega
    · have := TL.numL_digits _ c z; omega
theorem uTx_mem {q : Rat} {c : Nat} (h : c ∈ uTx q) : (47 ≤ c ∧ c ≤ 57) ∨ c = 63 := by
  rcases List.mem_cons.mp h with z | z
  · exact .inr z
  · exact .inl (aTx_mem z)
theorem rowsT_mem {qs us : List Rat} {y : List Nat} (h : y ∈ rowsT qs us) {c : Nat} (hc : c ∈ y) : (47 ≤ c ∧ c ≤ 57) ∨ c = 63 := by
  rcases List.mem_append.mp h with z | z
  · obtain ⟨q, _, rfl⟩ := List.mem_map.mp z
    exact .inl (aTx_mem hc)
  · obtain ⟨q, _, rfl⟩ := List.mem_map.mp z
    exact uTx_mem hc
theorem lTx_mem {l : Lad} {c : Nat} (hc : c ∈ lTx l) : c ≠ 46 ∧ c ≠ 124 := by
  have key : ∀ {ps : List (Nat × Nat)}, c ∈ psTx ps → c ≠ 46 ∧ c ≠ 124 := fun h => by rcases psTx_mem h with z | z <;> omega
  have num : ∀ {n : Nat}, c ∈ TL.numL n → c ≠ 46 ∧ c ≠ 124 := fun {n} h => by have := TL.numL_digits n c h; omega
  have con : ∀ {w : List Nat}, w.all (fun c => decide (c ≠ 46 ∧ c ≠ 124)) = true → c ∈ w → c ≠ 46 ∧ c ≠ 124 := fun h hm => by
    have := List.all_eq_true.mp h c hm
    exact of_decide_eq_true this
  have hc : c ∈ TL.numL l.n ++ ([58, 32] ++ joinL [59, 32] (l.rs.map rTx)) := hc
  rcases List.mem_append.mp hc with z | z
  · exact num z
  · rcases List.mem_append.mp z with z | z
    · exact con (by decide) z
    · rcases mem_joinL z with z | ⟨y, hy, z⟩
      · exact con (by decide) z
      · obtain ⟨r, _, rfl⟩ := List.mem_map.mp hy
        cases r with
        | fixed p =>
          have z : c ∈ [102, 32] ++ psTx p := z
          rcases List.mem_append.mp z with z | z
          · exact con (by decide) z
          · exact key z
        | shares w cc =>
          have z : c ∈ [115, 32] ++ (psTx w ++ if cc = [] then [] else upTo' ++ psTx cc) := z
          rcases List.mem_append.mp z with z | z
          · exact con (by decide) z
          · rcases List.mem_append.mp z with z | z
            · exact key z
            · split at z
              · cases z
              · rcases List.mem_append.mp z with z | z
                · exact con (by decide) z
                · exact key z
theorem sTx0_mem {l : Lad} {qs us : List Rat} {c : Nat} (h : c ∈ sTx0 l qs us) : c ≠ 46 ∧ c < 1000 := by
  rcases mem_joinL h with z | ⟨y, hy, z⟩
  · have : c = 124 := by simpa using z
    omega
  · rcases List.mem_cons.mp hy with e | e
    · subst e
      exact ⟨(lTx_mem z).1, asc_line c z⟩
    · rcases rowsT_mem e z with w | w <;> omega
theorem rowsT_len {qs us : List Rat} (hq : ∀ q ∈ qs, Amt q) (hu : ∀ q ∈ us, Amt q) : ∀ y ∈ rowsT qs us, y.length ≤ 22 := fun y hy => by
  rcases List.mem_append.mp hy with z | z
  · obtain ⟨q, h, rfl⟩ := List.mem_map.mp z
    exact Nat.le_trans (aTx_len (hq q h)) (by decide)
  · obtain ⟨q, h, rfl⟩ := List.mem_map.mp z
    have := aTx_len (hu q (List.mem_reverse.mp h))
    unfold uTx
    rw [List.length_cons]
    omega
theorem sTx0_len {l : Lad} {qs us : List Rat} (k : l.Ok) (hq : ∀ q ∈ qs, Amt q) (hu : ∀ q ∈ us, Amt q) (hl : qs.length + us.length ≤ 10) : (sTx0 l qs us).length ≤ 800 := by
  have h1 := lTx_len k
  have hr : (rowsT qs us).length ≤ 10 := by unfold rowsT; simp; omega
  have h2 := joinL_len (s := [124]) (m := 22) (ys := rowsT qs us) (rowsT_len hq hu)
  have h3 : (rowsT qs us).length * (22 + [124].length) ≤ 10 * 23 := Nat.mul_le_mul_right _ hr
  unfold sTx0
  cases hR : rowsT qs us with
  | nil =>
    show (lTx l).length ≤ 800
    omega
  | cons y ys =>
    rw [hR] at h2 h3
    have e : TL.joinL [124] (lTx l :: y :: ys) = lTx l ++ ([124] ++ TL.joinL [124] (y :: ys)) := by
      first
      | rfl
      | (unfold TL.joinL; simp)
    rw [e, List.length_append, List.length_append]
    have : [124].length = 1 := rfl
    omega
/-! cuts -/
theorem cutS_last {w : List Nat} : cutS (mkS w) (some (-1)) none = mkS (w.drop (w.length - 1)) := by
  unfold cutS
  have e : HT.sIx (mkS w).length 0 (some (-1)) = w.length - 1 := by
    rw [mkS_len]
    show (if (-1 : Int) < 0 then ((-1 : Int) + (w.length : Int)).toNat else min (-1 : Int).toNat w.length) = _
    rw [if_pos (by decide)]
    omega
  rw [e, HT.sIx_none, mkS_len]
  congr 1
  rw [List.take_of_length_le (by rw [List.length_drop]; exact Nat.le_refl _)]
theorem cutS_init {w : List Nat} : cutS (mkS w) none (some (-1)) = mkS (w.take (w.length - 1)) := by
  unfold cutS
  have e : HT.sIx (mkS w).length (mkS w).length (some (-1)) = w.length - 1 := by
    rw [mkS_len]
    show (if (-1 : Int) < 0 then ((-1 : Int) + (w.length : Int)).toNat else min (-1 : Int).toNat w.length) = _
    rw [if_pos (by decide)]
    omega
  rw [e, HT.sIx_none, List.drop_zero, Nat.sub_zero]
/-! replace -/
theorem repl_free : ∀ {w : List Nat}, 63 ∉ w → StrLaws.replL [63] [] w = w
  | [], _ => StrLaws.replL_nil
  | c :: w, h => by
    have hc : c ≠ 63 := fun z => h (by rw [z]; simp)
    rw [StrLaws.replL_miss (by simp; exact hc), repl_free fun z => h (List.mem_cons_of_mem _ z)]
theorem repl_head {w : List Nat} (h : 63 ∉ w) : StrLaws.replL [63] [] (63 :: w) = w := by
  rw [StrLaws.replL_hit (by simp) (by simp)]
  show [] ++ StrLaws.replL [63] [] w = w
  rw [List.nil_append, repl_free h]
theorem q_eq : ("?" : Str) = mkS [63] := by kernel_rfl
theorem e_eq : ("" : Str) = mkS [] := by kernel_rfl
theorem replD_of {w v : List Nat} (hl : w.length ≤ 1000) (h : StrLaws.replL [63] [] w = v) : replD "?" "" (.str (mkS w)) = some (.str (mkS v)) := by
  have e : Txt.replace (mkS w) "?" "" = mkS v := by
    have := StrLaws.replace_list (x := mkS w) (y := "?") (z := "") (by decide +kernel)
    rw [q_eq, e_eq] at this ⊢
    refine ext_tl ?_
    exact this.trans h
  have hz : ("" : Str).length = 0 := by decide +kernel
  show (if (mkS w).length + ((mkS w).length + 1) * ("" : Str).length ≤ 90000 then some (PyData.str (Txt.replace (mkS w) "?" "")) else none) = _
  rw [hz, mkS_len, if_pos (by omega), e]
theorem a_free {q : Rat} : 63 ∉ aTx q := fun h => by have := aTx_mem h; omega
theorem repl_a {q : Rat} (h : Amt q) : replD "?" "" (.str (mkS (aTx q))) = some (.str (mkS (aTx q))) := replD_of (by have := aTx_len h; omega) (repl_free a_free)
theorem repl_u {q : Rat} (h : Amt q) : replD "?" "" (.str (mkS (uTx q))) = some (.str (mkS (aTx q))) := replD_of (by have := aTx_len h; unfold uTx; simp; omega) (repl_head a_free)
/-! numbers -/
theorem int_num {n : Nat} (h : n < 10 ^ 10) : intTD [.str (mkS (TL.numL n))] = some (.int (n : Int)) := by
  have hl := numL_le h
  show (if (mkS (TL.numL n)).length ≤ 600 then (PySem.intText? (mkS (TL.numL n))).map PyData.int else none) = _
  rw [mkS_len, if_pos (by omega), intText_digits (x := mkS (TL.numL n)) (TL.numL_digits n) (fun z => TL.numL_ne n z) (by rw [mkS_len]; omega)]
  show some (PyData.int (NumText.digitsVal (TL.numL n) : Int)) = _
  rw [TL.numL_val]
theorem sl_eq1 : ("/" : Str) = mkS [47] := by kernel_rfl
theorem split_a {q : Rat} (h : Amt q) : splitD (.str (mkS (aTx q))) (.str "/") = some [.str (mkS (TL.numL (na q))), .str (mkS (TL.numL q.den))] := by
  have e : aTx q = TL.joinL [47] [TL.numL (na q), TL.numL q.den] := by unfold aTx; rfl
  have hs : sp [47] (aTx q) = [TL.numL (na q), TL.numL q.den] := by
    rw [e]
    exact TL.spl_join (s := 47) (S := []) (by simp) fun p hp => by
      rcases List.mem_cons.mp hp with z | z
      · rw [z]; exact TL.numL_free (by omega)
      · rw [List.mem_singleton.mp z]; exact TL.numL_free (by omega)
  rw [sl_eq1, split_ok (by simp) (by decide) (by have := aTx_len h; omega), hs]
  rfl
theorem bar_eq : ("|" : Str) = mkS [124] := by kernel_rfl
theorem dot_eq : ("." : Str) = mkS [46] := by kernel_rfl
theorem split_s {l : Lad} {qs us : List Rat} (h : (sTx0 l qs us).length ≤ 800) : splitD (.str (mkS (sTx0 l qs us))) (.str "|") = some (.str (mkS (lTx l)) :: (rowsT qs us).map fun y => PyData.str (mkS y)) := by
  have hs : sp [124] (sTx0 l qs us) = lTx l :: rowsT qs us := by
    unfold sTx0
    exact TL.spl_join (s := 124) (S := []) (by simp) fun p hp hm => by
      rcases List.mem_cons.mp hp with z | z
      · subst z; exact (lTx_mem hm).2 rfl
      · rcases rowsT_mem z hm with w | w <;> omega
  rw [bar_eq, split_ok (by simp) (by decide) (by omega), hs]
  rfl
end Sx

namespace Sx
open PySem PySem.Spec PyProof.Rows L2 Mx TL
/-! ### save -/
theorem fmt_sm {n : Nat} (h : n < 10 ^ 10) : fmtD (.int (n : Int)) = some (mkS (TL.numL n)) := by
  rw [fmt_natS h, str_num]
abbrev PS3 (L : Dt) (D U : List Dt) (x1 x2 : Option SV) : Sl := [some (.sl L D U), x1, x2]
theorem row_a {L : Dt} {D U : List Dt} {x1 : Option SV} {q : Rat} (h : Amt q) : cE_save_1 (PS3 L D U x1 (some (.d (fr q)))) none = .ok (.str (mkS (aTx q)), none) := by
  have l1 := numL_le (na_lt h).1
  have l2 := numL_le (na_lt h).2
  have e0 : Str.empty = mkS [] := rfl
  have i0 : ixD (fr q) (.int 0) = some (.int ((na q : Nat) : Int)) := by rw [fr_nat h]; rfl
  have i1 : ixD (fr q) (.int 1) = some (.int ((q.den : Nat) : Int)) := by rw [fr_nat h]; rfl
  unfold cE_save_1
  rw [eFst_s, e0, jE_ok (d := .int ((na q : Nat) : Int)) (W1 := none) (by generalize fr q = Z at *; simp [i0]) (fmt_sm (na_lt h).1) (by simp; omega),
    jE_ok (d := .str "/") (W1 := none) rfl (by rw [sl_eq1]; exact fmt_str (by decide)) (by simp; omega),
    jE_ok (d := .int ((q.den : Nat) : Int)) (W1 := none) (by generalize fr q = Z at *; simp [i1]) (fmt_sm (na_lt h).2) (by simp; omega)]
  show Res.ok (PyData.str (mkS ([] ++ TL.numL (na q) ++ [47] ++ TL.numL q.den)), none) = .ok (PyData.str (mkS (aTx q)), none)
  unfold aTx
  simp
theorem row_u {L : Dt} {D U : List Dt} {x1 : Option SV} {q : Rat} (h : Amt q) : cE_save_2 (PS3 L D U x1 (some (.d (fr q)))) none = .ok (.str (mkS (uTx q)), none) := by
  have l1 := numL_le (na_lt h).1
  have l2 := numL_le (na_lt h).2
  have e0 : Str.empty = mkS [] := rfl
  have i0 : ixD (fr q) (.int 0) = some (.int ((na q : Nat) : Int)) := by rw [fr_nat h]; rfl
  have i1 : ixD (fr q) (.int 1) = some (.int ((q.den : Nat) : Int)) := by rw [fr_nat h]; rfl
  unfold cE_save_2
  rw [eFst_s, e0, jE_ok (d := .str "?") (W1 := none) rfl (by rw [q_eq]; exact fmt_str (by decide)) (by simp),
    jE_ok (d := .int ((na q : Nat) : Int)) (W1 := none) (by generalize fr q = Z at *; simp [i0]) (fmt_sm (na_lt h).1) (by simp; omega),
    jE_ok (d := .str "/") (W1 := none) rfl (by rw [sl_eq1]; exact fmt_str (by decide)) (by simp; omega),
    jE_ok (d := .int ((q.den : Nat) : Int)) (W1 := none) (by generalize fr q = Z at *; simp [i1]) (fmt_sm (na_lt h).2) (by simp; omega)]
  show Res.ok (PyData.str (mkS ([] ++ [63] ++ TL.numL (na q) ++ [47] ++ TL.numL q.den)), none) = .ok (PyData.str (mkS (uTx q)), none)
  unfold uTx aTx
  simp
theorem save_1 {L : Dt} {qs : List Rat} {U : List Dt} (h : ∀ q ∈ qs, Amt q) (hl : qs.length ≤ 1000) : sOwn 1 (lComp (iSeq (eFldD 0)) (gN 2) bYes cE_save_1 [2]) (PS3 L (qs.map fr) U none none) none =
    .nx (PS3 L (qs.map fr) U (some (.own (qs.map fun q => PyData.str (mkS (aTx q))))) none) none := by
  have hc : cL (gN 2) bYes cE_save_1 (PS3 L (qs.map fr) U none none) (qs.map fr) none = .ok (qs.map fun q => PyData.str (mkS (aTx q)), none) :=
    cL_map fr _ _ fun q hq => ⟨PS3 L (qs.map fr) U none (some (.d (fr q))), rfl, row_a (h q hq)⟩
  have hlen : (qs.map fr).length ≤ 100000 := by rw [List.length_map]; omega
  generalize (qs.map fun q => PyData.str (mkS (aTx q))) = R at *
  generalize qs.map fr = D at *
  generalize cE_save_1 = CE at *
  simp [wipeOk, hc, hlen, eFldD]
theorem save_2 {L : Dt} {D : List Dt} {us : List Rat} {R : List Dt} (h : ∀ q ∈ us, Amt q) (hl : us.length ≤ 1000) (hr : R.length ≤ 1000) : sExt 1 (lComp (iSeq (eFrz (lRev (eFldU 0)))) (gN 2) bYes cE_save_2 [2]) (PS3 L D (us.map fr) (some (.own R)) none) none =
    .nx (PS3 L D (us.map fr) (some (.own (R ++ us.reverse.map fun q => PyData.str (mkS (uTx q))))) none) none := by
  have hc : cL (gN 2) bYes cE_save_2 (PS3 L D (us.map fr) (some (.own R)) none) (us.reverse.map fr) none = .ok (us.reverse.map fun q => PyData.str (mkS (uTx q)), none) :=
    cL_map fr _ _ fun q hq => ⟨PS3 L D (us.map fr) (some (.own R)) (some (.d (fr q))), rfl, row_u (h q (List.mem_reverse.mp hq))⟩
  have hrev : (us.map fr).reverse = us.reverse.map fr := by rw [List.map_reverse]
  have hlen : (us.reverse.map fr).length ≤ 100000 := by rw [List.length_map, List.length_reverse]; omega
  have hz : R.length + (us.reverse.map fun q => PyData.str (mkS (uTx q))).length ≤ 100000 := by rw [List.length_map, List.length_reverse]; omega
  generalize (us.reverse.map fun q => PyData.str (mkS (uTx q))) = S at *
  generalize us.reverse.map fr = V at *
  generalize us.map fr = U at *
  generalize cE_save_2 = CE at *
  simp [wipeOk, hc, hlen, eFldU, lRev, hrev, hz, sExt]
theorem join_big {s : List Nat} {ys : List (List Nat)} (hs : s.length ≤ 10) (hn : ys.length ≤ 20) (hy : ∀ y ∈ ys, y.length ≤ 500) : joinD (.str (mkS s)) (.list (ys.map fun y => PyData.str (mkS y))) = some (.str (mkS (joinL s ys))) := by
  have e : (ys.map fun y => PyData.str (mkS y)) = (ys.map mkS).map PyData.str := by rw [List.map_map]; rfl
  rw [e]
  show (strsOf ((ys.map mkS).map PyData.str)).bind _ = _
  rw [strsOf_map, Option.bind_some]
  have hsum : ((ys.map mkS).map (·.length)).sum ≤ ys.length * 500 := by
    have h := sum_le (m := 500) (xs := (ys.map mkS).map (·.length)) fun x hx => by
      obtain ⟨z, hz, rfl⟩ := List.mem_map.mp hx
      obtain ⟨y, hy', rfl⟩ := List.mem_map.mp hz
      rw [mkS_len]
      exact hy y hy'
    rw [List.length_map, List.length_map] at h
    exact h
  have h2 : ys.length * 500 ≤ 20 * 500 := Nat.mul_le_mul_right _ hn
  have h3 : (ys.map mkS).length * (mkS s).length ≤ 20 * 10 := by
    rw [List.length_map, mkS_len]
    exact Nat.mul_le_mul hn hs
  rw [if_pos (by omega), mkS_join]
theorem save_ok {l : Lad} {qs us : List Rat} (k : l.Ok) (hq : ∀ q ∈ qs, Amt q) (hu : ∀ q ∈ us, Amt q) (hl : qs.length + us.length ≤ 10) : F_save (ld l) (qs.map fr) (us.map fr) = .ok (.str (mkS (sTx l qs us))) := by
  have h1 := save_1 (L := ld l) (U := us.map fr) hq (by omega)
  have h2 := save_2 (L := ld l) (D := qs.map fr) (R := qs.map fun q => PyData.str (mkS (aTx q))) hu (by omega) (by rw [List.length_map]; omega)
  have hR : (qs.map fun q => PyData.str (mkS (aTx q))) ++ (us.reverse.map fun q => PyData.str (mkS (uTx q))) = (rowsT qs us).map fun y => PyData.str (mkS y) := by
    unfold rowsT
    rw [List.map_append, List.map_map, List.map_map]
    rfl
  rw [hR] at h2
  have ht := ladder_text_ok k
  have hrl : (rowsT qs us).length ≤ 10 := by unfold rowsT; simp; omega
  have hj := join_big (s := [124]) (ys := lTx l :: rowsT qs us) (by decide) (by simp; omega) fun y hy => by
    rcases List.mem_cons.mp hy with e | e
    · rw [e]; exact Nat.le_trans (lTx_len k) (by decide)
    · exact Nat.le_trans (rowsT_len hq hu y e) (by decide)
  rw [← bar_eq, List.map_cons] at hj
  have ha := add_str (a := sTx0 l qs us) (b := [46]) (by have := sTx0_len k hq hu hl; simp; omega)
  rw [← dot_eq] at ha
  have hlen : ((rowsT qs us).map fun y => PyData.str (mkS y)).length + 1 ≤ 100000 := by rw [List.length_map]; omega
  have h3 : sRet (eBin addD (eTm joinD (eC (.str "|")) (eBin addD (eFrz (lLst (aCons (eCall 1 F_ladder_text (aCons (eFldL 0) aNil)) aNil))) (eBor 1))) (eC (.str "."))) (PS3 (ld l) (qs.map fr) (us.map fr) (some (.own ((rowsT qs us).map fun y => PyData.str (mkS y)))) none) none = .rt (.d (.str (mkS (sTx l qs us)))) none := by
    have hj : joinD (.str "|") (.list (.str (mkS (lTx l)) :: (rowsT qs us).map fun y => PyData.str (mkS y))) = some (.str (mkS (sTx0 l qs us))) := hj
    have ha : addD (.str (mkS (sTx0 l qs us))) (.str ".") = some (.str (mkS (sTx l qs us))) := ha
    have hadd : addD (.list [.str (mkS (lTx l))]) (.list ((rowsT qs us).map fun y => PyData.str (mkS y))) = some (.list (.str (mkS (lTx l)) :: (rowsT qs us).map fun y => PyData.str (mkS y))) := add_l (by simp only [List.length_singleton]; omega)
    generalize ((rowsT qs us).map fun y => PyData.str (mkS y)) = RT at *
    generalize mkS (sTx l qs us) = T1 at *
    generalize mkS (sTx0 l qs us) = T0 at *
    generalize mkS (lTx l) = TL0 at *
    generalize ld l = L at *
    generalize F_ladder_text = FT at *
    simp [eFldL, ht, hadd, eTm, isStr, hj, ha]
  unfold F_save runQ
  show (match B_save (PS3 (ld l) (qs.map fr) (us.map fr) none none) none with
    | .rt (.d (.str z)) _ => Res.ok (PyData.str z)
    | _ => .bad) = _
  unfold B_save
  rw [sSeq_s, h1]
  simp only
  rw [sSeq_s, h2]
  simp only
  rw [h3]
end Sx

namespace Sx
open PySem PySem.Spec PyProof.Rows L2 Mx TL
/-! ### load -/
abbrev P9 (T : Dt) (x1 x2 x3 x4 x5 x6 x7 x8 : Option SV) : Sl := [some (.d T), x1, x2, x3, x4, x5, x6, x7, x8]
/-- a row, an amount that was undone has a sign ahead -/
def rwT (p : Bool × Rat) : List Nat := if p.1 = true then uTx p.2 else aTx p.2
theorem aTx_head {q : Rat} : (aTx q).take 1 ≠ [63] := fun h => by
  have : 63 ∈ (aTx q).take 1 := by rw [h]; simp
  exact a_free (List.mem_of_mem_take this)
theorem rwT_asc {p : Bool × Rat} : Asc8 (rwT p) := fun c hc => by
  unfold rwT at hc
  split at hc
  · rcases uTx_mem hc with z | z <;> omega
  · have := aTx_mem hc; omega
theorem rwT_len {p : Bool × Rat} (h : Amt p.2) : (rwT p).length ≤ 22 := by
  have := aTx_len h
  unfold rwT
  split
  · unfold uTx; rw [List.length_cons]; omega
  · omega
theorem rwT_head {p : Bool × Rat} : eqD (.str (mkS ((rwT p).take 1))) (.str "?") = some (.bool p.1) := by
  have h63 : Asc8 [63] := fun c hc => by rw [List.mem_singleton.mp hc]; decide
  rw [q_eq, eq_mk ((rwT_asc (p := p)).take 1) h63]
  obtain ⟨b, q⟩ := p
  cases b with
  | true => rfl
  | false =>
    have : decide ((rwT (false, q)).take 1 = [63]) = false := decide_eq_false aTx_head
    rw [this]
theorem rwT_repl {p : Bool × Rat} (h : Amt p.2) : replD "?" "" (.str (mkS (rwT p))) = some (.str (mkS (aTx p.2))) := by
  obtain ⟨b, q⟩ := p
  cases b with
  | true => exact repl_u h
  | false => exact repl_a h
def cntU (b : Bool) : Int := if b = true then 1 else 0
section
variable {W : Tw} {T L : Dt} {x1 x2 x3 x4 x5 x6 x7 x8 : Option SV}
theorem st_row {Fp : Dt → List Dt → List Dt → List Dt → Res (Dt × SV)} {R R1 A Z1 Z2 N1 N2 r : Dt} {D U : List Dt} {n : Int} {b : Bool} {sv : SV} (s1 : sliceD R none (some 1) = some R1) (e1 : eqD R1 (.str "?") = some (.bool b)) (r1 : replD "?" "" R = some A) (hA : isStr A = true) (sp1 : splitD A (.str "/") = some [Z1, Z2]) (i1 : intTD [Z1] = some N1) (i2 : intTD [Z2] = some N2) (hp : Fp L D U [.tuple [N1, N2]] = .ok (r, sv)) :
    sSeq (sAug 4 (eCB intD (aCons (eBin eqD (eSlice (eVar 5) oNone (oSome (eC (.int 1)))) (eC (.str "?"))) aNil)))
      (sSeq (sAsgG (gLs 2 (gsCons (gN 7) (gsCons (gN 8) gsNil))) (eFrz (lTm splitD (eUn (replD "?" "") (eVar 5)) (eC (.str "/")))))
      (sExprX (xMeth 3 1 Fp (aCons (eTup (aCons (eCB intTD (aCons (eVar 7) aNil)) (aCons (eCB intTD (aCons (eVar 8) aNil)) aNil))) aNil))))
      (P9 T x1 x2 (some (.se L D U)) (some (.d (.int n))) (some (.d R)) x6 x7 x8) W = .nx (P9 T x1 x2 (some sv) (some (.d (.int (n + cntU b)))) (some (.d R)) x6 (some (.d Z1)) (some (.d Z2))) W := by
  have hi : intD [.bool b] = some (.int (cntU b)) := by cases b <;> rfl
  have a1 : sAug 4 (eCB intD (aCons (eBin eqD (eSlice (eVar 5) oNone (oSome (eC (.int 1)))) (eC (.str "?"))) aNil)) (P9 T x1 x2 (some (.se L D U)) (some (.d (.int n))) (some (.d R)) x6 x7 x8) W = .nx (P9 T x1 x2 (some (.se L D U)) (some (.d (.int (n + cntU b)))) (some (.d R)) x6 x7 x8) W := by
    generalize cntU b = C at *
    simp [sAug, P9, s1, e1, hi]
  generalize n + cntU b = M at *
  refine sSeq_nx a1 (sSeq_nx (ρ1 := P9 T x1 x2 (some (.se L D U)) (some (.d (.int M))) (some (.d R)) x6 (some (.d Z1)) (some (.d Z2))) (W1 := W) ?_ ?_)
  · simp [P9, r1, hA, sp1, gLs]
  · simp [sExprX, xMeth, P9, i1, i2, hp]
end
section
variable {W : Tw} {T : Dt} {x1 x2 x6 : Option SV} {l : Lad}
theorem row_turn {x7 x8 : Option SV} (k : l.Ok) {qs us : List Rat} {p : Bool × Rat} {n : Nat} (A : A20 qs) (hp : T20 8000 p.2) (hl : qs.length ≤ 90) : ∃ y7 y8 : Option SV,
    lB_load_1 (P9 T x1 x2 (some (.se (ld l) (qs.map fr) (us.map fr))) (some (.d (.int (n : Int)))) (some (.d (.str (mkS (rwT p))))) x6 x7 x8) W =
      .nx (P9 T x1 x2 (some (.se (ld l) ((qs ++ [p.2]).map fr) [])) (some (.d (.int ((n : Int) + cntU p.1)))) (some (.d (.str (mkS (rwT p))))) x6 y7 y8) W := by
  have hA := hp.amt (show 8000 ≤ 20000000 by decide)
  have A' := A.snoc hp
  have hlen : (qs ++ [p.2]).length ≤ 100 := by simp; omega
  have hput := put_sX (U := us.map fr) k (ses20 A (by omega)) (ses20 A' hlen) hA ((sum20 A').amt (by omega)) (by omega)
  have hb := na_lt hA
  have hrl := rwT_len hA
  have s1 : sliceD (.str (mkS (rwT p))) none (some 1) = some (.str (mkS ((rwT p).take 1))) := by
    show (if (mkS (rwT p)).length ≤ 100000 then some (PyData.str (cutS (mkS (rwT p)) none (some ((1 : Nat) : Int)))) else none) = _
    rw [mkS_len, if_pos (by omega), cutS_take]
  rw [fr_nat hA] at hput
  exact ⟨_, _, st_row s1 rwT_head (rwT_repl hA) rfl (split_a hA) (int_num hb.1) (int_num hb.2) hput⟩
/-- how many rows are of undone amounts -/
def cntL : List (Bool × Rat) → Nat
  | [] => 0
  | p :: ps => (if p.1 = true then 1 else 0) + cntL ps
theorem rows_loop (k : l.Ok) : ∀ (ps : List (Bool × Rat)) (qs us : List Rat) (n : Nat) (x5 x7 x8 : Option SV), A20 qs → (∀ p ∈ ps, T20 8000 p.2) → qs.length + ps.length ≤ 90 → ∃ y5 y7 y8 : Option SV, ∃ us' : List Rat, (ps = [] → us' = us) ∧ (ps ≠ [] → us' = []) ∧
    fL (gN 5) lB_load_1 (ps.map fun p => PyData.str (mkS (rwT p))) (P9 T x1 x2 (some (.se (ld l) (qs.map fr) (us.map fr))) (some (.d (.int (n : Int)))) x5 x6 x7 x8) W =
      .nx (P9 T x1 x2 (some (.se (ld l) ((qs ++ ps.map Prod.snd).map fr) (us'.map fr))) (some (.d (.int ((n + cntL ps : Nat) : Int)))) y5 x6 y7 y8) W
  | [], qs, us, n, x5, x7, x8, A, hp, hl => ⟨x5, x7, x8, us, fun _ => rfl, fun h => absurd rfl h, by rw [List.map_nil, List.map_nil, List.append_nil]; rfl⟩
  | p :: ps, qs, us, n, x5, x7, x8, A, hp, hl => by
    rw [List.length_cons] at hl
    obtain ⟨y7, y8, e⟩ := row_turn (W := W) (T := T) (x1 := x1) (x2 := x2) (x6 := x6) (x7 := x7) (x8 := x8) k (us := us) (n := n) A (hp p (by simp)) (by omega)
    obtain ⟨z5, z7, z8, us', h1, h2, ih⟩ := rows_loop k ps (qs ++ [p.2]) [] (n + if p.1 = true then 1 else 0) (some (.d (.str (mkS (rwT p))))) y7 y8 (A.snoc (hp p (by simp))) (fun q hq => hp q (List.mem_cons_of_mem _ hq)) (by simp; omega)
    have hus : us' = [] := by
      by_cases hps : ps = []
      · exact h1 hps
      · exact h2 hps
    refine ⟨z5, z7, z8, us', fun h => absurd h (by simp), fun _ => hus, ?_⟩
    have hn : (n : Int) + cntU p.1 = ((n + (if p.1 = true then 1 else 0) : Nat) : Int) := by
      unfold cntU
      split <;> omega
    rw [hn] at e
    rw [List.map_cons, fL_step (ρ1 := P9 T x1 x2 (some (.se (ld l) (qs.map fr) (us.map fr))) (some (.d (.int (n : Int)))) (some (.d (.str (mkS (rwT p))))) x6 x7 x8) rfl e]
    have e1 : qs ++ (p :: ps).map Prod.snd = (qs ++ [p.2]) ++ ps.map Prod.snd := by simp
    have e2 : n + cntL (p :: ps) = n + (if p.1 = true then 1 else 0) + cntL ps := by
      show n + ((if p.1 = true then 1 else 0) + cntL ps) = _
      omega
    rw [e1, e2]
    exact ih
theorem undo_loop {L : Dt} {x4 x5 x7 x8 : Option SV} : ∀ (rs qs vs : List Rat) (ds : List Dt) (x6 : Option SV), ds.length = rs.length → vs.length + rs.length ≤ 1000 → ∃ y6 : Option SV,
    fL (gN 6) lB_load_2 ds (P9 T x1 x2 (some (.se L ((qs ++ rs.reverse).map fr) (vs.map fr))) x4 x5 x6 x7 x8) W = .nx (P9 T x1 x2 (some (.se L (qs.map fr) ((vs ++ rs).map fr))) x4 x5 y6 x7 x8) W
  | [], qs, vs, [], x6, hd, hl => ⟨x6, by rw [List.reverse_nil, List.append_nil, List.append_nil]; rfl⟩
  | r :: rs, qs, vs, d :: ds, x6, hd, hl => by
    rw [List.length_cons] at hl
    have hu := undo_some (L := L) (qs := qs ++ rs.reverse) (us := vs) (x := r) (by omega)
    have e0 : qs ++ (r :: rs).reverse = qs ++ rs.reverse ++ [r] := by simp
    have hb : lB_load_2 (P9 T x1 x2 (some (.se L ((qs ++ rs.reverse ++ [r]).map fr) (vs.map fr))) x4 x5 (some (.d d)) x7 x8) W = .nx (P9 T x1 x2 (some (.se L ((qs ++ rs.reverse).map fr) ((vs ++ [r]).map fr))) x4 x5 (some (.d d)) x7 x8) W := by
      generalize (qs ++ rs.reverse ++ [r]).map fr = D1 at *
      generalize (qs ++ rs.reverse).map fr = D2 at *
      generalize (vs ++ [r]).map fr = U2 at *
      generalize vs.map fr = U1 at *
      generalize fr r = X at *
      unfold lB_load_2
      generalize F_X_undo = FU at *
      simp [sExprX, xMeth, P9, hu]
    obtain ⟨y6, ih⟩ := undo_loop (L := L) (x4 := x4) (x5 := x5) (x7 := x7) (x8 := x8) rs qs (vs ++ [r]) ds (some (.d d)) (by simpa using hd) (by simp; omega)
    refine ⟨y6, ?_⟩
    rw [e0, fL_step (ρ1 := P9 T x1 x2 (some (.se L ((qs ++ rs.reverse ++ [r]).map fr) (vs.map fr))) x4 x5 (some (.d d)) x7 x8) rfl hb]
    have e1 : vs ++ r :: rs = (vs ++ [r]) ++ rs := by simp
    rw [e1]
    exact ih
  | [], _, _, _ :: _, _, hd, _ => by cases hd
  | _ :: _, _, _, [], _, hd, _ => by cases hd
end
/-- all rows -/
def rowsP (qs us : List Rat) : List (Bool × Rat) := (qs.map fun q => (false, q)) ++ us.reverse.map fun q => (true, q)
theorem rowsP_eq {qs us : List Rat} : (rowsT qs us).map (fun y => PyData.str (mkS y)) = (rowsP qs us).map fun p => PyData.str (mkS (rwT p)) := by
  unfold rowsT rowsP
  simp only [List.map_append, List.map_map]
  rfl
theorem rowsP_snd {qs us : List Rat} : (rowsP qs us).map Prod.snd = qs ++ us.reverse := by
  unfold rowsP
  rw [List.map_append, List.map_map, List.map_map]
  congr 1
  · exact List.map_id' _
  · exact List.map_id' _
theorem cntL_app : ∀ (as bs : List (Bool × Rat)), cntL (as ++ bs) = cntL as + cntL bs
  | [], bs => by show cntL bs = 0 + cntL bs; omega
  | a :: as, bs => by
    have ih := cntL_app as bs
    show (if a.1 = true then 1 else 0) + cntL (as ++ bs) = (if a.1 = true then 1 else 0) + cntL as + cntL bs
    omega
theorem cntL_f : ∀ (qs : List Rat), cntL (qs.map fun q => (false, q)) = 0
  | [] => rfl
  | q :: qs => by
    have ih := cntL_f qs
    show 0 + cntL (qs.map fun q => (false, q)) = 0
    omega
theorem cntL_t : ∀ (qs : List Rat), cntL (qs.map fun q => (true, q)) = qs.length
  | [] => rfl
  | q :: qs => by
    have ih := cntL_t qs
    show 1 + cntL (qs.map fun q => (true, q)) = qs.length + 1
    omega
theorem rowsP_cnt {qs us : List Rat} : cntL (rowsP qs us) = us.length := by
  unfold rowsP
  rw [cntL_app, cntL_f, cntL_t, List.length_reverse]
  omega
theorem slice_str {w : List Nat} {lo hi : Option Int} (h : w.length ≤ 1000) : sliceD (.str (mkS w)) lo hi = some (.str (cutS (mkS w) lo hi)) := by
  show (if (mkS w).length ≤ 100000 then some (PyData.str (cutS (mkS w) lo hi)) else none) = _
  rw [mkS_len, if_pos (by omega)]
section
variable {T : Dt} {x1 x2 x3 x4 x5 x6 x7 x8 : Option SV} {W : Tw}
def ldC : SB := (bOr (bNot (bOf (eUn (isiD "str") (eVar 0)))) (bOf (eBin neD (eSlice (eVar 0) (oSome (eUn negD (eC (.int 1)))) oNone) (eC (.str ".")))))
theorem ld_kind (h : isiD "str" T = some (.bool false)) : ldC (P9 T x1 x2 x3 x4 x5 x6 x7 x8) W = .ok (true, W) := by
  simp [ldC, P9, h]
theorem ld_end {T1 : Dt} {b : Bool} (h : isiD "str" T = some (.bool true)) (s : sliceD T (some (-1)) none = some T1) (n : neD T1 (.str ".") = some (.bool b)) : ldC (P9 T x1 x2 x3 x4 x5 x6 x7 x8) W = .ok (b, W) := by
  simp [ldC, P9, h, s, n]
theorem load_exc (h : ldC (P9 T none none none none none none none none) none = .ok (true, none)) : F_load [T] = .exc "InvalidText" := by
  unfold F_load runS
  show (match B_load (P9 T none none none none none none none none) none with
    | .rt (.se L D U) _ => Res.ok (SV.se L D U)
    | .exc c => .exc c
    | _ => .bad) = _
  have hb : B_load (P9 T none none none none none none none none) none = .exc "InvalidText" := by
    unfold B_load
    show (match sIf ldC (sRaise "InvalidText") sPass (P9 T none none none none none none none none) none with | .nx ρ1 W1 => _ | r => r) = _
    rw [sIf_s, h]
    rfl
  rw [hb]
end
theorem load_kind {T : Dt} (h : isiD "str" T = some (.bool false)) : F_load [T] = .exc "InvalidText" := load_exc (ld_kind h)
theorem asc1 {c : Nat} (h : c < 1000) : Asc8 [c] := fun d hd => by rw [List.mem_singleton.mp hd]; exact h
theorem load_cut {w : List Nat} (hl : w.length ≤ 1000) (ha : Asc8 w) (h : ∀ c ∈ w, c ≠ 46) : F_load [.str (mkS w)] = .exc "InvalidText" := by
  refine load_exc (ld_end (b := true) rfl ((slice_str hl).trans (by rw [cutS_last])) ?_)
  rw [dot_eq, ne_mk (ha.drop _) (asc1 (by decide))]
  have : decide (w.drop (w.length - 1) = [46]) = false := decide_eq_false fun e => by
    have : 46 ∈ w.drop (w.length - 1) := by rw [e]; simp
    exact h 46 (List.mem_of_mem_drop this) rfl
  rw [this]
  rfl
theorem load_cutS {l : Lad} {qs us : List Rat} {m : Nat} (hl : (sTx0 l qs us).length ≤ 800) (h : m < (sTx l qs us).length) : F_load [.str (mkS ((sTx l qs us).take m))] = .exc "InvalidText" := by
  have hm : m ≤ (sTx0 l qs us).length := by
    unfold sTx at h
    rw [List.length_append, List.length_singleton] at h
    omega
  have e : (sTx l qs us).take m = (sTx0 l qs us).take m := by
    unfold sTx
    rw [List.take_append_of_le_length hm]
  rw [e]
  refine load_cut (by rw [List.length_take]; omega) (fun c hc => (sTx0_mem (List.mem_of_mem_take hc)).2) fun c hc => (sTx0_mem (List.mem_of_mem_take hc)).1
theorem load_ok {l : Lad} {qs us : List Rat} (k : l.Ok) (hq : A20 qs) (hu : A20 us) (hl : qs.length + us.length ≤ 10) : F_load [.str (mkS (sTx l qs us))] = .ok (.se (ld l) (qs.map fr) (us.map fr)) := by
  have hqA : ∀ q ∈ qs, Amt q := fun q h => (hq q h).amt (by decide)
  have huA : ∀ q ∈ us, Amt q := fun q h => (hu q h).amt (by decide)
  have h0 := sTx0_len k hqA huA hl
  have hlen : (sTx l qs us).length = (sTx0 l qs us).length + 1 := by unfold sTx; rw [List.length_append, List.length_singleton]
  have hsl1 : sliceD (.str (mkS (sTx l qs us))) (some (-1)) none = some (.str (mkS [46])) := by
    rw [slice_str (by omega), cutS_last, hlen, Nat.add_sub_cancel]
    unfold sTx
    rw [List.drop_append_of_le_length (Nat.le_refl _), List.drop_length, List.nil_append]
  have hsl2 : sliceD (.str (mkS (sTx l qs us))) none (some (-1)) = some (.str (mkS (sTx0 l qs us))) := by
    rw [slice_str (by omega), cutS_init, hlen, Nat.add_sub_cancel]
    unfold sTx
    rw [List.take_append_of_le_length (Nat.le_refl _), List.take_length]
  have hn : neD (.str (mkS [46])) (.str ".") = some (.bool false) := by
    rw [dot_eq, ne_mk (asc1 (by decide)) (asc1 (by decide))]
    rfl
  have hsp := split_s (l := l) (qs := qs) (us := us) h0
  rw [rowsP_eq] at hsp
  have hpb := parse_back k
  have hin := init_X k
  have hcnt := rowsP_cnt (qs := qs) (us := us)
  have hpl : (rowsP qs us).length ≤ 10 := by unfold rowsP; simp; omega
  have hps : ∀ p ∈ rowsP qs us, T20 8000 p.2 := fun p hp => by
    unfold rowsP at hp
    rcases List.mem_append.mp hp with z | z
    · obtain ⟨q, h, rfl⟩ := List.mem_map.mp z
      exact hq q h
    · obtain ⟨q, h, rfl⟩ := List.mem_map.mp z
      exact hu q (List.mem_reverse.mp h)
  obtain ⟨RR, hRR⟩ : ∃ RR, RR = (rowsP qs us).map fun p => PyData.str (mkS (rwT p)) := ⟨_, rfl⟩
  have hRl : RR.length ≤ 16000 := by rw [hRR, List.length_map]; omega
  obtain ⟨y5, y7, y8, us', c1, c2, e1⟩ := rows_loop (W := none) (T := .str (mkS (sTx l qs us))) (x1 := some (.d (.str (mkS (lTx l))))) (x2 := some (.d (.list RR))) (x6 := none) k (rowsP qs us) [] [] 0 none none none A20.nil hps (by simp; omega)
  have hus : us' = [] := by
    by_cases hps : rowsP qs us = []
    · exact c1 hps
    · exact c2 hps
  subst hus
  rw [List.nil_append, rowsP_snd, hcnt, Nat.zero_add, ← hRR] at e1
  obtain ⟨y6, e2⟩ := undo_loop (W := none) (T := .str (mkS (sTx l qs us))) (x1 := some (.d (.str (mkS (lTx l))))) (x2 := some (.d (.list RR))) (L := ld l) (x4 := some (.d (.int (us.length : Int)))) (x5 := y5) (x7 := y7) (x8 := y8) us qs [] ((List.range us.length).map iD) none (by rw [List.length_map, List.length_range]) (by simp; omega)
  rw [List.nil_append] at e2
  have hr : rngOf [.int (us.length : Int)] = some ((List.range us.length).map iD) := rngOf_n (n := us.length) (by omega)
  have c0 := ld_end (W := none) (T := .str (mkS (sTx l qs us))) (x1 := none) (x2 := none) (x3 := none) (x4 := none) (x5 := none) (x6 := none) (x7 := none) (x8 := none) rfl hsl1 hn
  rw [← hRR] at hsp
  have hB : B_load (P9 (.str (mkS (sTx l qs us))) none none none none none none none none) none = .rt (.se (ld l) (qs.map fr) (us.map fr)) none := by
    generalize mkS (sTx l qs us) = T at *
    generalize mkS (sTx0 l qs us) = T0 at *
    generalize mkS (lTx l) = T1 at *
    generalize ld l = L at *
    generalize (qs ++ us.reverse).map fr = D1 at *
    generalize qs.map fr = D at *
    generalize us.map fr = U at *
    generalize (List.range us.length).map iD = RG at *
    generalize (us.length : Int) = N at *
    unfold B_load
    rw [sSeq_s]
    have b0 : sIf (bOr (bNot (bOf (eUn (isiD "str") (eVar 0)))) (bOf (eBin neD (eSlice (eVar 0) (oSome (eUn negD (eC (.int 1)))) oNone) (eC (.str "."))))) (sRaise "InvalidText") sPass (P9 (.str T) none none none none none none none none) none = .nx (P9 (.str T) none none none none none none none none) none := by
      show sIf ldC (sRaise "InvalidText") sPass _ _ = _
      rw [sIf_s, c0]
      rfl
    rw [b0]
    simp only
    rw [sSeq_s]
    have b1 : sStar 1 2 (lTm splitD (eSlice (eVar 0) oNone (oSome (eUn negD (eC (.int 1))))) (eC (.str "|"))) (P9 (.str T) none none none none none none none none) none = .nx (P9 (.str T) (some (.d (.str T1))) (some (.d (.list RR))) none none none none none none) none := by
      simp [sStar, P9, hsl2, hsp, hRl]
    rw [b1]
    simp only
    rw [sSeq_s]
    have b2 : sNewS 3 F_X_init (eCallX 1 F_X_parse_ladder (aCons (eVar 1) aNil)) (P9 (.str T) (some (.d (.str T1))) (some (.d (.list RR))) none none none none none none) none = .nx (P9 (.str T) (some (.d (.str T1))) (some (.d (.list RR))) (some (.se L [] [])) none none none none none) none := by
      generalize F_X_parse_ladder = FP at *
      generalize F_X_init = FI at *
      simp [sNewS, P9, hpb, hin]
    rw [b2]
    simp only
    rw [sSeq_s]
    have b3 : sAsg 4 (eC (.int 0)) (P9 (.str T) (some (.d (.str T1))) (some (.d (.list RR))) (some (.se L [] [])) none none none none none) none = .nx (P9 (.str T) (some (.d (.str T1))) (some (.d (.list RR))) (some (.se L [] [])) (some (.d (.int 0))) none none none none) none := rfl
    rw [b3]
    simp only
    rw [sSeq_s]
    have b4 : sFor (iSeq (eVar 2)) (gN 5) lB_load_1 (P9 (.str T) (some (.d (.str T1))) (some (.d (.list RR))) (some (.se L [] [])) (some (.d (.int 0))) none none none none) none = .nx (P9 (.str T) (some (.d (.str T1))) (some (.d (.list RR))) (some (.se L D1 [])) (some (.d (.int N))) y5 none y7 y8) none := e1
    rw [b4]
    simp only
    rw [sSeq_s]
    have b5 : sFor (iRng (aCons (eVar 4) aNil)) (gN 6) lB_load_2 (P9 (.str T) (some (.d (.str T1))) (some (.d (.list RR))) (some (.se L D1 [])) (some (.d (.int N))) y5 none y7 y8) none = .nx (P9 (.str T) (some (.d (.str T1))) (some (.d (.list RR))) (some (.se L D U)) (some (.d (.int N))) y5 y6 y7 y8) none := by
      refine Eq.trans ?_ e2
      rw [sFor_s]
      have : iRng (aCons (eVar 4) aNil) (P9 (.str T) (some (.d (.str T1))) (some (.d (.list RR))) (some (.se L D1 [])) (some (.d (.int N))) y5 none y7 y8) none = .ok (RG, none) := by
        simp [P9, hr]
      rw [this]
      rfl
    rw [b5]
    rfl
  unfold F_load runS
  show (match B_load (P9 (.str (mkS (sTx l qs us))) none none none none none none none none) none with
    | .rt (.se L D U) _ => Res.ok (SV.se L D U)
    | .exc c => .exc c
    | _ => .bad) = _
  rw [hB]
end Sx

namespace Sx
open PySem PySem.Spec PyProof.Rows L2
/-! ### the class -/
theorem sc_total : FnScope ["self"] ["self"] (defScope (meth 5)) := ⟨rfl, rfl, rfl, by decide +kernel, rfl, by decide +kernel, by decide +kernel⟩
theorem ok_total {P : Program} {w : World} {K : PySem.W.Frag} {mg : Str → Option Value} {base : Heap} {f : Addr} {fd : FuncData} (F : Fun K "total" "Session.total" (meth 5) f fd) (C : SesC K) (c_sum_of : CalP P w K mg base "sum_of" 4 1 ["some"] F_sum_of) :
    FnOk P w K mg base CX0 5 f fd ["self"] (spQ K F_total) := by
  obtain ⟨f_s, fd_s, ok_s, mg_s, kp_s, bd_s⟩ := c_sum_of
  refine F.ok sc_total (fun vs H Q E h => ?_) fun cdv A outer s H vs Q E hr h => ⟨_, pss_one (ps_ret (pe_call ok_s (hr.mono (by decide : 4 ≤ 4)) rfl mg_s kp_s bd_s .nil pass0 (pa_cons (pe_fld (pv 0) rfl) pa_nil))), ?_⟩
  · obtain ⟨Fz, a, p, q, L, D, U, rfl, _⟩ := h
    rfl
  · obtain ⟨Fz, a, p, q, L, D, U, rfl, sm, tb, se, n, hm⟩ := h
    obtain ⟨dx, vL, vD, vU, h1, h2, h3, h4, h5, h6, h7⟩ := id se
    refine ⟨_, rfl, a, SC K, dx, _, _, rfl, h1, C.cl, C.nD, sesF_D, upd Fz p (.lst vD), [.list D], lend_same sm h2, tb.ff n.2.1 h2 nt_lst, .cons (.lst (.inl (.inl upd_same)) (h5.mono (same_new n.2.1))) .nil, rfl, ?_⟩
    unfold F_total loF at hm
    cases hF : F_sum_of [.list D] with
    | ok d =>
      rw [hF] at hm
      simp only at hm ⊢
      by_cases hd : lfD d = true
      · rw [if_pos hd] at hm
        exact fun v F' H' g hv => hm v _ H' (Gr0.unlend n.2.1 h2 tb g) (Dq.unlend g hd hv)
      · rw [if_neg hd] at hm; exact hm.elim
    | exc c => rw [hF] at hm; exact hm.elim
    | bad => rw [hF] at hm; exact hm.elim
theorem sc_paid : FnScope ["self"] ["self"] (defScope (meth 6)) := ⟨rfl, rfl, rfl, by decide +kernel, rfl, by decide +kernel, by decide +kernel⟩
theorem ok_paid {P : Program} {w : World} {K : PySem.W.Frag} {mg : Str → Option Value} {base : Heap} {f fT : Addr} {fd fdT : FuncData} (F : Fun K "paid" "Session.paid" (meth 6) f fd) (C : SesC K) (mT : Meth K (SC K) "total" fT) (okT : FnOk P w K mg base CX0 5 fT fdT ["self"] (spQ K F_total)) (bT : Binds K fdT ["self"] []) (c_all_payments : CalP P w K mg base "all_payments" 9 2 ["ladder", "amount"] F_all_payments) :
    FnOk P w K mg base CX0 10 f fd ["self"] (spQ K F_paid) := by
  obtain ⟨f_s, fd_s, ok_s, mg_s, kp_s, bd_s⟩ := c_all_payments
  refine F.ok sc_paid (fun vs H Q E h => ?_) fun cdv A outer s H vs Q E hr h => ⟨_, pss_one (ps_ret (pe_call ok_s (hr.mono (by decide : 9 ≤ 9)) rfl mg_s kp_s bd_s .nil pass0 (pa_cons (pe_fld (pv 0) rfl) (pa_cons (pe_meth0 (pv 0) C.cl mT okT (hr.mono (by decide : 5 ≤ 9)) bT .nil pass0) pa_nil)))), ?_⟩
  · obtain ⟨Fz, a, p, q, L, D, U, rfl, _⟩ := h
    rfl
  · obtain ⟨Fz, a, p, q, L, D, U, rfl, sm, tb, se, n, hm⟩ := h
    obtain ⟨dx, vL, vD, vU, h1, h2, h3, h4, h5, h6, h7⟩ := id se
    refine ⟨_, rfl, a, SC K, dx, _, _, rfl, h1, C.cl, C.nL, sesF_L, _, rfl, a, dx, _, rfl, h1, sesF_no (by decide +kernel) (by decide +kernel) (by decide +kernel), Fz, a, p, q, L, D, U, rfl, sm, tb, se, n, ?_⟩
    unfold F_paid at hm
    cases hT : F_total L D U with
    | ok t =>
      rw [hT] at hm
      simp only at hm ⊢
      intro v F1 H1 g1 hv
      refine ⟨F1, [L, t], g1.fh, g1.tb tb, .cons (h4.mono g1.ff) (.cons hv .nil), rfl, ?_⟩
      cases hF : F_all_payments [L, t] with
      | ok d => rw [hF] at hm; exact fun v F' H' g hv => hm v F' H' (g1.trans g) hv
      | exc c => rw [hF] at hm; exact hm.elim
      | bad => rw [hF] at hm; exact hm.elim
    | exc c => rw [hT] at hm; exact hm.elim
    | bad => rw [hT] at hm; exact hm.elim

/-! put -/
theorem sc_put : FnScope ["self", "amount", "before", "whole", "one", "other"] ["self", "amount"] (defScope (meth 4)) := ⟨rfl, rfl, rfl, by decide +kernel, rfl, by decide +kernel, by decide +kernel⟩
theorem ok_put {P : Program} {w : World} {K : PySem.W.Frag} {mg : Str → Option Value} {base : Heap} {f fT fP : Addr} {fd fdT fdP : FuncData} (g : Glob K mg) (EF : ExF K mg) (F : Fun K "put" "Session.put" (meth 4) f fd) (C : SesC K)
    (mT : Meth K (SC K) "total" fT) (okT : FnOk P w K mg base CX0 5 fT fdT ["self"] (spQ K F_total)) (bT : Binds K fdT ["self"] []) (mP : Meth K (SC K) "paid" fP) (okP : FnOk P w K mg base CX0 10 fP fdP ["self"] (spQ K F_paid)) (bP : Binds K fdP ["self"] [])
    (c_check_amount : CalX P w K mg base "check_amount" 3 1 ["value"] F_X_check_amount) (c_plus : CalP P w K mg base "plus" 3 2 ["one", "other"] F_plus) (c_is_amount : CalP P w K mg base "is_amount" 2 1 ["value"] F_is_amount) (c_minus : CalP P w K mg base "minus" 4 2 ["one", "other"] F_minus) :
    FnOk P w K mg base (L2.CX P w) 11 f fd ["self", "amount"] (spM K mg 1 F_X_put) := by
  obtain ⟨f_check_amount, fd_check_amount, ok_check_amount, mg_check_amount, kp_check_amount, bd_check_amount⟩ := c_check_amount
  obtain ⟨f_plus, fd_plus, ok_plus, mg_plus, kp_plus, bd_plus⟩ := c_plus
  obtain ⟨f_is_amount, fd_is_amount, ok_is_amount, mg_is_amount, kp_is_amount, bd_is_amount⟩ := c_is_amount
  obtain ⟨f_minus, fd_minus, ok_minus, mg_minus, kp_minus, bd_minus⟩ := c_minus
  have sc := sc_put
  obtain ⟨Cx, gCx, x1, x2, x3, x4⟩ := (EF.oe "TooMuch" (by decide +kernel)).ex
  refine F.okX sc_put (fun vs H Q E h => ?_) fun cdv A outer s H vs Q E hr h => ⟨_, pss_cons (ps_expr (pe_callS (E := WE (fun cls d _ H => E cls d H)) ok_check_amount (hr.mono (by decide : 3 ≤ 10)) rfl mg_check_amount kp_check_amount bd_check_amount (passAt (takes_of rfl rfl rfl rfl)) (pa_cons (pv 1) pa_nil)))
    (pss_cons (ps_par (i := 2) (j := 3) rfl sc.nd rfl rfl (by decide) rfl rfl (pa_cons (pe_meth0 (pv 0) C.cl mP okP (hr.mono (by decide : 10 ≤ 10)) bP .nil pass0) (pa_cons (pe_call ok_plus (hr.mono (by decide : 3 ≤ 10)) rfl mg_plus kp_plus bd_plus .nil pass0 (pa_cons (pe_meth0 (pv 0) C.cl mT okT (hr.mono (by decide : 5 ≤ 10)) bT .nil pass0) (pa_cons (pv 1) pa_nil))) pa_nil)) rfl)
    (pss_cons (ps_if (pt_not (pt_val (pe_call ok_is_amount (hr.mono (by decide : 2 ≤ 10)) rfl mg_is_amount kp_is_amount bd_is_amount .nil pass0 (pa_cons (pv 3) pa_nil)))) (pss_one (ps_raise (W := fun cls d _ H => E cls d H) rfl (takes_of rfl rfl rfl rfl) (pmk_own (C := Cx) PySem.F.excBase_ValueError x1 gCx x2 (raises_own x3 x4) rfl))) pss_nil)
    (pss_cons (ps_expr (pe_bm PySem.F.plainAttrs_list PySem.F.slot_list_append PySem.F.type_list_append mt_append (pe_fld (pv 0) rfl) (pa_cons (pv 1) pa_nil)))
    (pss_cons (ps_fld (pv 0) (pe_lst pa_nil) rfl)
    (pss_one (ps_ret (show PE _ _ (tE K X0 ePut) from (d_callTy ct_tuple rfl g.tuple_ (by decide +kernel) (r_cons (d_r (d_frz (l_comp (own := [("one", 4), ("other", 5)]) rfl sc.nd (i_zip rfl g.zip_ (a_cons (d_query C mP nf_paid okP (hr.mono (by decide : 10 ≤ 10)) bP (pv 0)) (a_cons (d_var (pv 2)) a_nil))) (blkOk_by (own := [("one", 4), ("other", 5)]) (N := ["self", "amount", "before", "whole", "one", "other"]) (sc := defScope (meth 4)) (by decide +kernel)) (fun _ _ _ _ _ => (g_tup rfl (gs_cons (g_name (pg_name (i := 4) sc.nd rfl (Or.inl rfl))) (gs_cons (g_name (pg_name (i := 5) sc.nd rfl (Or.inl rfl))) gs_nil)))) (fun _ _ _ _ _ => t_yes) (fun _ _ _ _ _ => (d_call ok_minus (hr.mono (by decide : 4 ≤ 10)) rfl mg_minus kp_minus bd_minus (a_cons (d_var (pv 4)) (a_cons (d_var (pv 5)) a_nil)))) (by decide)))) r_nil))))))))), ?_⟩
  · obtain ⟨Fz, a, p, q, L, D, U, vr, ds, rfl, _, _, _, _, hd, hl, _⟩ := h
    rw [List.length_cons, hd.length, hl]
    rfl
  · obtain ⟨Fz, a, p, q, L, D, U, vr, ds, rfl, sm, tb, se, n, hd, hl, hm⟩ := h
    obtain ⟨x, vx, rfl, rfl, hx⟩ : ∃ x vx, ds = [x] ∧ vr = [vx] ∧ Dq K Fz vx x := by
      cases hd with
      | nil => cases hl
      | cons h t => cases t with
        | nil => exact ⟨_, _, rfl, rfl, h⟩
        | cons _ _ => simp at hl
    obtain ⟨dx, vL, vD, vU, h1, h2, h3, h4, h5, h6, h7⟩ := id se
    unfold F_X_put at hm
    simp only at hm
    refine ⟨_, rfl, Fz, [x], sm, tb, .cons hx .nil, rfl, ?_⟩
    cases hC : F_X_check_amount [x] with
    | exc c => rw [hC] at hm; exact hm
    | bad => rw [hC] at hm; exact hm.elim
    | ok uc =>
    cases hP : F_paid L D U with
    | exc c => rw [hC, hP] at hm; exact hm.elim
    | bad => rw [hC, hP] at hm; exact hm.elim
    | ok b =>
    cases hT : F_total L D U with
    | exc c => rw [hC, hP, hT] at hm; exact hm.elim
    | bad => rw [hC, hP, hT] at hm; exact hm.elim
    | ok t =>
    rw [hC, hP, hT] at hm
    simp only at hm ⊢
    intro _ F1 H1 g1 _
    have se1 := se.grow g1
    have n1 := se.n3 g1 n
    obtain ⟨dx1, vL1, vD1, vU1, k1, _⟩ := id se1
    refine ⟨_, rfl, a, dx1, _, rfl, k1, sesF_no nf_paid.l nf_paid.d nf_paid.u, F1, a, p, q, L, D, U, rfl, g1.fh, g1.tb tb, se1, n1, ?_⟩
    rw [hP]
    intro vb F2 H2 g2 hb
    have g12 := g1.trans g2
    have se2 := se.grow g12
    have n2 := se.n3 g12 n
    obtain ⟨dx2, vL2, vD2, vU2, k2, _⟩ := id se2
    refine ⟨_, rfl, a, dx2, _, rfl, k2, sesF_no nf_total.l nf_total.d nf_total.u, F2, a, p, q, L, D, U, rfl, g12.fh, g12.tb tb, se2, n2, ?_⟩
    rw [hT]
    intro vt F3 H3 g3 ht
    have g13 := g12.trans g3
    refine ⟨_, rfl, F3, [t, x], g13.fh, g13.tb tb, .cons ht (.cons (hx.mono g13.ff) .nil), rfl, ?_⟩
    cases hW : F_plus [t, x] with
    | exc c => rw [hW] at hm; exact hm.elim
    | bad => rw [hW] at hm; exact hm.elim
    | ok wv =>
    rw [hW] at hm
    simp only at hm ⊢
    intro vw F4 H4 g4 hw
    have g14 := g13.trans g4
    refine ⟨_, _, rfl, ?_⟩
    refine ⟨_, rfl, F4, [wv], g14.fh, g14.tb tb, .cons hw .nil, rfl, ?_⟩
    cases hI : F_is_amount [wv] with
    | exc c => rw [hI] at hm; exact hm.elim
    | bad => rw [hI] at hm; exact hm.elim
    | ok kd =>
    rw [hI] at hm
    by_cases hkd : kd = .bool true
    · subst hkd
      simp only at hm ⊢
      intro vk F5 H5 g5 hk
      cases hk
      have g15 := g14.trans g5
      have se5 := se.grow g15
      have n5 := se.n3 g15 n
      have tb5 := g15.tb tb
      obtain ⟨dx5, vL5, vD5, vU5, j1, j2, j3, j4, j5, j6, j7⟩ := id se5
      by_cases hl : D.length ≤ 100000
      · rw [if_pos hl] at hm
        refine ⟨_, rfl, ?_⟩
        refine ⟨_, rfl, a, SC K, dx5, _, _, rfl, j1, C.cl, C.nD, sesF_D, .inl ⟨rfl, _, SqL.of j2⟩, _, rfl, p, _, _, rfl, rfl, j2, Nat.lt_of_le_of_lt (by rw [j5.length]; exact hl) (by decide), ?_⟩
        refine ⟨Nat.zero_le _, fun q' hq' => ?_⟩
        have nap : a ≠ p := se5.nap
        have hpq' : p ≠ q' := fun z => by rw [← z, upd_same] at hq'; cases hq'
        have hq5 : H5 q' = none := by rw [upd_ne (Ne.symm hpq')] at hq'; exact hq'
        have naq' : a ≠ q' := ne_of_none j1 hq5
        refine ⟨_, rfl, a, SC K, dx5, _, rfl, by rw [upd_ne naq', upd_ne nap]; exact j1, C.cl, C.nU, (by show 3 < 1000; decide), ?_⟩
        rw [sesF_putU]
        have hx5 : Dq K F5 vx x := hx.mono g15.ff
        have se6 : SesAt K F5 (upd (upd (upd H5 p (.lst (vD5 ++ [vx]))) q' (.lst [])) a (.ins (SC K) dx5 (sesF vL5 p q'))) a p q' L (D ++ [x]) [] :=
          ⟨dx5, vL5, vD5 ++ [vx], [], upd_same, by rw [upd_ne (Ne.symm nap), upd_ne hpq', upd_same], by rw [upd_ne (Ne.symm naq'), upd_same], j4, j5.append (.one hx5), .nil, hpq'⟩
        have fq' : F5 q' = none := g5.fh.free hq5
        have sm6 : Same F5 (upd (upd (upd H5 p (.lst (vD5 ++ [vx]))) q' (.lst [])) a (.ins (SC K) dx5 (sesF vL5 p q'))) := fun y o e => by
          rw [upd_ne (ne_of_none e n5.1), upd_ne (ne_of_none e fq'), upd_ne (ne_of_none e n5.2.1)]
          exact g5.fh y o e
        have tb6 : TabsF (tabsOf K) F5 (upd (upd (upd H5 p (.lst (vD5 ++ [vx]))) q' (.lst [])) a (.ins (SC K) dx5 (sesF vL5 p q'))) := by
          have t1 := tb5.mut (o' := .lst (vD5 ++ [vx])) j2 nt_lst
          have t2 := t1.newH (p := q') (o := .lst []) hq'
          exact t2.mut (o := .ins (SC K) dx5 (sesF vL5 p q)) (by rw [upd_ne naq', upd_ne nap]; exact j1) nt_ins
        have R := Rel.startS (k := 2) (vs := [vx, vb, vw]) (ds := [x, b, wv]) sm6 tb6 se6 ⟨n5.1, n5.2.1, fq'⟩ (.cons hx5 (.cons (hb.mono ((g3.trans g4).trans g5).ff) (.cons (hw.mono g5.ff) .nil)))
        refine ⟨_, _, none, F5, R, ?_⟩
        cases hL : ePut [some (.se L (D ++ [x]) []), some (.d x), some (.d b), some (.d wv), none, none] none with
        | ok r =>
          rw [hL] at hm
          show Pg X0 _ (ePut [some (.se L (D ++ [x]) []), some (.d x), some (.d b), some (.d wv), none, none] none) _
          rw [hL]
          intro v F7 H7 s7 R7 hv
          obtain ⟨p7, q7, g7, se7, n7, np, nq⟩ := R7.seEnd (F := F5) (H := upd (upd (upd H5 p (.lst (vD5 ++ [vx]))) q' (.lst [])) a (.ins (SC K) dx5 (sesF vL5 p q'))) (a := a) (p := p) (q := q') rfl rfl rfl rfl rfl
          obtain ⟨gg, dn⟩ := Gr0.after (q := q) g15 (.inl rfl) (.inr hq5) (fun y hy => by
            rw [upd_ne (fun z => hy (.inl z)), upd_ne (fun z => hy (.inr (.inr (.inr (.inr z))))), upd_ne (fun z => hy (.inr (.inl z)))]) (tb6.delS se6.pts) g7
          exact hm v F7 H7 p7 q7 gg se7 n7 (dn _ np) (dn _ nq) hv
        | exc c => rw [hL] at hm; exact hm.elim
        | bad => rw [hL] at hm; exact hm.elim
      · rw [if_neg hl] at hm; exact hm.elim
    · cases kd with
      | bool kb => cases kb with
        | true => exact absurd rfl hkd
        | false =>
          simp only at hm ⊢
          intro vk F5 H5 g5 hk
          cases hk
          refine ⟨_, rfl, ?_⟩
          obtain ⟨C', gC', hE⟩ := hm F5 H5 (g14.trans g5)
          rw [gCx] at gC'
          cases gC'
          exact hE
      | _ => exact hm.elim

/-! undo -/
theorem sc_undo : FnScope ["self"] ["self"] (defScope (meth 7)) := ⟨rfl, rfl, rfl, by decide +kernel, rfl, by decide +kernel, by decide +kernel⟩
theorem ok_undo {P : Program} {w : World} {K : PySem.W.Frag} {mg : Str → Option Value} {base : Heap} {f : Addr} {fd : FuncData} (EF : ExF K mg) (F : Fun K "undo" "Session.undo" (meth 7) f fd) (C : SesC K) :
    FnOk P w K mg base (L2.CX P w) 1 f fd ["self"] (spM K mg 0 F_X_undo) := by
  obtain ⟨Cx, gCx, x1, x2, x3, x4⟩ := (EF.oe "NothingToUndo" (by decide +kernel)).ex
  refine F.okX sc_undo (fun vs H Q E h => ?_) fun cdv A outer s H vs Q E hr h => ⟨_, pss_cons (ps_if (pt_cmpR (op_eqQ (units64 hr)) (pe_fld (pv 0) rfl) (pe_lst pa_nil) (nomark _)) (pss_one (ps_raise (W := fun cls d _ H => E cls d H) rfl (takes_of rfl rfl rfl rfl) (pmk_own (C := Cx) PySem.F.excBase_ValueError x1 gCx x2 (raises_own x3 x4) rfl))) pss_nil)
    (pss_cons (ps_expr (pe_bm PySem.F.plainAttrs_list PySem.F.slot_list_append PySem.F.type_list_append mt_append (pe_fld (pv 0) rfl) (pa_cons (pe_bm0 PySem.F.plainAttrs_list PySem.F.slot_list_pop PySem.F.type_list_pop mt_pop (pe_fld (pv 0) rfl)) pa_nil)))
    (pss_one (ps_ret (pe_ix ix_D (pe_fld (pv 0) rfl) (pe_un un_negD pe_int) (fun _ _ => rfl))))), ?_⟩
  · obtain ⟨Fz, a, p, q, L, D, U, vr, ds, rfl, _, _, _, _, hd, hl, _⟩ := h
    rw [List.length_cons, hd.length, hl]
    rfl
  · obtain ⟨Fz, a, p, q, L, D, U, vr, ds, rfl, sm, tb, se, n, hd, hl, hm⟩ := h
    obtain ⟨rfl, rfl⟩ : ds = [] ∧ vr = [] := by
      cases hd with
      | nil => exact ⟨rfl, rfl⟩
      | cons _ _ => simp at hl
    obtain ⟨dx, vL, vD, vU, h1, h2, h3, h4, h5, h6, h7⟩ := id se
    unfold F_X_undo at hm
    cases hE : eqD (.list D) (.list []) with
    | none => rw [hE] at hm; exact hm.elim
    | some z =>
    rw [hE] at hm
    by_cases hz : z = .bool false
    · subst hz
      cases hx : D.getLast? with
      | none => rw [hx] at hm; exact hm.elim
      | some x =>
      rw [hx] at hm
      simp only at hm
      by_cases hU : U.length ≤ 100000
      · rw [if_pos hU] at hm
        refine ⟨_, rfl, a, SC K, dx, _, _, rfl, h1, C.cl, C.nD, sesF_D, Nat.zero_le _, fun l hl => ?_⟩
        have g0 : Gr0 K Fz H Fz (upd H l (.lst [])) := .newH sm hl
        refine ⟨Fz, .list D, .list [], _, g0.fh, .inr ⟨p, vD, D, rfl, rfl, by rw [upd_ne (ne_of_none h2 hl)]; exact h2, h5⟩, .inr ⟨l, [], [], rfl, rfl, upd_same, .nil⟩, hE, fun v F1 H1 g1 hv => ?_⟩
        cases hv
        refine ⟨_, rfl, ?_⟩
        have g01 := g0.trans g1
        have se1 := se.grow g01
        have n1 := se.n3 g01 n
        obtain ⟨dx1, vL1, vD1, vU1, j1, j2, j3, j4, j5, j6, j7⟩ := id se1
        obtain ⟨y, hy, hyx⟩ := dq_last j5 hx
        refine ⟨_, rfl, a, SC K, dx1, _, _, rfl, j1, C.cl, C.nU, sesF_U, .inl ⟨rfl, _, SqL.of j3⟩, _, rfl, a, SC K, dx1, _, _, rfl, j1, C.cl, C.nD, sesF_D, .inl ⟨rfl, _, SqL.of j2⟩, p, _, _, rfl, rfl, j2, hy, q, _, _, rfl, rfl, by rw [upd_ne (Ne.symm j7)]; exact j3, Nat.lt_of_le_of_lt (by rw [j6.length]; exact hU) (by decide), ?_⟩
        have nap : a ≠ p := se1.nap
        have naq : a ≠ q := se1.naq
        have ja : upd (upd H1 p (.lst vD1.dropLast)) q (.lst (vU1 ++ [y])) a = some (.ins (SC K) dx1 (sesF vL1 p q)) := by rw [upd_ne naq, upd_ne nap]; exact j1
        have sm2 : Same F1 (upd (upd H1 p (.lst vD1.dropLast)) q (.lst (vU1 ++ [y]))) := fun b o e => by
          rw [upd_ne (ne_of_none e n1.2.2), upd_ne (ne_of_none e n1.2.1)]
          exact g1.fh b o e
        have se2 : SesAt K F1 (upd (upd H1 p (.lst vD1.dropLast)) q (.lst (vU1 ++ [y]))) a p q L D.dropLast (U ++ [x]) :=
          ⟨dx1, vL1, _, _, ja, by rw [upd_ne j7, upd_same], upd_same, j4, dq_dropLast j5, j6.append (.one hyx), j7⟩
        have tb2 : TabsF (tabsOf K) F1 (upd (upd H1 p (.lst vD1.dropLast)) q (.lst (vU1 ++ [y]))) := by
          have t1 := (g01.tb tb).mut (o' := .lst vD1.dropLast) j2 nt_lst
          exact t1.mut (o := .lst vU1) (by rw [upd_ne (Ne.symm j7)]; exact j3) nt_lst
        refine ⟨_, rfl, a, SC K, dx1, _, _, rfl, ja, C.cl, C.nU, sesF_U, F1, .int 1, .int (-1), sm2, .inl (.int 1), rfl, fun vi F2 H2 g2 hi => ?_⟩
        have se3 := se2.grow g2
        obtain ⟨dx3, vL3, vD3, vU3, m1, m2, m3, m4, m5, m6, m7⟩ := id se3
        refine ⟨F2, .list (U ++ [x]), .int (-1), x, g2.fh, .inr ⟨q, vU3, U ++ [x], rfl, rfl, m3, m6⟩, .inl hi, ix_last, fun v F3 H3 g3 hv => ?_⟩
        have g23 := g2.trans g3
        have se4 := se2.grow g23
        have n4 := se2.n3 g23 n1
        have gf : Gr0 K F1 (delS (upd (upd H1 p (.lst vD1.dropLast)) q (.lst (vU1 ++ [y]))) a p q) F3 H3 := Gr0.frame g23 tb2
        obtain ⟨gg, dn⟩ := Gr0.after (q := q) g01 (.inl rfl) (.inl rfl) (fun z hz => by
          rw [upd_ne (fun w => hz (.inr (.inr (.inl w)))), upd_ne (fun w => hz (.inr (.inl w)))]) (tb2.delS se2.pts) gf
        exact hm v F3 H3 p q gg se4 n4 (delS_in (.inr (.inl rfl))) (delS_in (.inr (.inr rfl))) hv
      · rw [if_neg hU] at hm; exact hm.elim
    · cases z with
      | bool kb => cases kb with
        | true =>
          refine ⟨_, rfl, a, SC K, dx, _, _, rfl, h1, C.cl, C.nD, sesF_D, Nat.zero_le _, fun l hl => ?_⟩
          have g0 : Gr0 K Fz H Fz (upd H l (.lst [])) := .newH sm hl
          refine ⟨Fz, .list D, .list [], _, g0.fh, .inr ⟨p, vD, D, rfl, rfl, by rw [upd_ne (ne_of_none h2 hl)]; exact h2, h5⟩, .inr ⟨l, [], [], rfl, rfl, upd_same, .nil⟩, hE, fun v F1 H1 g1 hv => ?_⟩
          cases hv
          refine ⟨_, rfl, ?_⟩
          obtain ⟨C', gC', hE2⟩ := hm F1 H1 (g0.trans g1)
          rw [gCx] at gC'
          cases gC'
          exact hE2
        | false => exact absurd rfl hz
      | _ => exact hm.elim
theorem sc_redo : FnScope ["self"] ["self"] (defScope (meth 8)) := ⟨rfl, rfl, rfl, by decide +kernel, rfl, by decide +kernel, by decide +kernel⟩
theorem ok_redo {P : Program} {w : World} {K : PySem.W.Frag} {mg : Str → Option Value} {base : Heap} {f : Addr} {fd : FuncData} (EF : ExF K mg) (F : Fun K "redo" "Session.redo" (meth 8) f fd) (C : SesC K) :
    FnOk P w K mg base (L2.CX P w) 1 f fd ["self"] (spM K mg 0 F_X_redo) := by
  obtain ⟨Cx, gCx, x1, x2, x3, x4⟩ := (EF.oe "NothingToUndo" (by decide +kernel)).ex
  refine F.okX sc_redo (fun vs H Q E h => ?_) fun cdv A outer s H vs Q E hr h => ⟨_, pss_cons (ps_if (pt_cmpR (op_eqQ (units64 hr)) (pe_fld (pv 0) rfl) (pe_lst pa_nil) (nomark _)) (pss_one (ps_raise (W := fun cls d _ H => E cls d H) rfl (takes_of rfl rfl rfl rfl) (pmk_own (C := Cx) PySem.F.excBase_ValueError x1 gCx x2 (raises_own x3 x4) rfl))) pss_nil)
    (pss_cons (ps_expr (pe_bm PySem.F.plainAttrs_list PySem.F.slot_list_append PySem.F.type_list_append mt_append (pe_fld (pv 0) rfl) (pa_cons (pe_bm0 PySem.F.plainAttrs_list PySem.F.slot_list_pop PySem.F.type_list_pop mt_pop (pe_fld (pv 0) rfl)) pa_nil)))
    (pss_one (ps_ret (pe_ix ix_D (pe_fld (pv 0) rfl) (pe_un un_negD pe_int) (fun _ _ => rfl))))), ?_⟩
  · obtain ⟨Fz, a, p, q, L, D, U, vr, ds, rfl, _, _, _, _, hd, hl, _⟩ := h
    rw [List.length_cons, hd.length, hl]
    rfl
  · obtain ⟨Fz, a, p, q, L, D, U, vr, ds, rfl, sm, tb, se, n, hd, hl, hm⟩ := h
    obtain ⟨rfl, rfl⟩ : ds = [] ∧ vr = [] := by
      cases hd with
      | nil => exact ⟨rfl, rfl⟩
      | cons _ _ => simp at hl
    obtain ⟨dx, vL, vD, vU, h1, h2, h3, h4, h5, h6, h7⟩ := id se
    unfold F_X_redo at hm
    cases hE : eqD (.list U) (.list []) with
    | none => rw [hE] at hm; exact hm.elim
    | some z =>
    rw [hE] at hm
    by_cases hz : z = .bool false
    · subst hz
      cases hx : U.getLast? with
      | none => rw [hx] at hm; exact hm.elim
      | some x =>
      rw [hx] at hm
      simp only at hm
      by_cases hU : D.length ≤ 100000
      · rw [if_pos hU] at hm
        refine ⟨_, rfl, a, SC K, dx, _, _, rfl, h1, C.cl, C.nU, sesF_U, Nat.zero_le _, fun l hl => ?_⟩
        have g0 : Gr0 K Fz H Fz (upd H l (.lst [])) := .newH sm hl
        refine ⟨Fz, .list U, .list [], _, g0.fh, .inr ⟨q, vU, U, rfl, rfl, by rw [upd_ne (ne_of_none h3 hl)]; exact h3, h6⟩, .inr ⟨l, [], [], rfl, rfl, upd_same, .nil⟩, hE, fun v F1 H1 g1 hv => ?_⟩
        cases hv
        refine ⟨_, rfl, ?_⟩
        have g01 := g0.trans g1
        have se1 := se.grow g01
        have n1 := se.n3 g01 n
        obtain ⟨dx1, vL1, vD1, vU1, j1, j2, j3, j4, j5, j6, j7⟩ := id se1
        obtain ⟨y, hy, hyx⟩ := dq_last j6 hx
        refine ⟨_, rfl, a, SC K, dx1, _, _, rfl, j1, C.cl, C.nD, sesF_D, .inl ⟨rfl, _, SqL.of j2⟩, _, rfl, a, SC K, dx1, _, _, rfl, j1, C.cl, C.nU, sesF_U, .inl ⟨rfl, _, SqL.of j3⟩, q, _, _, rfl, rfl, j3, hy, p, _, _, rfl, rfl, by rw [upd_ne j7]; exact j2, Nat.lt_of_le_of_lt (by rw [j5.length]; exact hU) (by decide), ?_⟩
        have nap : a ≠ p := se1.nap
        have naq : a ≠ q := se1.naq
        have ja : upd (upd H1 q (.lst vU1.dropLast)) p (.lst (vD1 ++ [y])) a = some (.ins (SC K) dx1 (sesF vL1 p q)) := by rw [upd_ne nap, upd_ne naq]; exact j1
        have sm2 : Same F1 (upd (upd H1 q (.lst vU1.dropLast)) p (.lst (vD1 ++ [y]))) := fun b o e => by
          rw [upd_ne (ne_of_none e n1.2.1), upd_ne (ne_of_none e n1.2.2)]
          exact g1.fh b o e
        have se2 : SesAt K F1 (upd (upd H1 q (.lst vU1.dropLast)) p (.lst (vD1 ++ [y]))) a p q L (D ++ [x]) U.dropLast :=
          ⟨dx1, vL1, _, _, ja, upd_same, by rw [upd_ne (Ne.symm j7), upd_same], j4, j5.append (.one hyx), dq_dropLast j6, j7⟩
        have tb2 : TabsF (tabsOf K) F1 (upd (upd H1 q (.lst vU1.dropLast)) p (.lst (vD1 ++ [y]))) := by
          have t1 := (g01.tb tb).mut (o' := .lst vU1.dropLast) j3 nt_lst
          exact t1.mut (o := .lst vD1) (by rw [upd_ne j7]; exact j2) nt_lst
        refine ⟨_, rfl, a, SC K, dx1, _, _, rfl, ja, C.cl, C.nD, sesF_D, F1, .int 1, .int (-1), sm2, .inl (.int 1), rfl, fun vi F2 H2 g2 hi => ?_⟩
        have se3 := se2.grow g2
        obtain ⟨dx3, vL3, vD3, vU3, m1, m2, m3, m4, m5, m6, m7⟩ := id se3
        refine ⟨F2, .list (D ++ [x]), .int (-1), x, g2.fh, .inr ⟨p, vD3, D ++ [x], rfl, rfl, m2, m5⟩, .inl hi, ix_last, fun v F3 H3 g3 hv => ?_⟩
        have g23 := g2.trans g3
        have se4 := se2.grow g23
        have n4 := se2.n3 g23 n1
        have gf : Gr0 K F1 (delS (upd (upd H1 q (.lst vU1.dropLast)) p (.lst (vD1 ++ [y]))) a p q) F3 H3 := Gr0.frame g23 tb2
        obtain ⟨gg, dn⟩ := Gr0.after (q := q) g01 (.inl rfl) (.inl rfl) (fun z hz => by
          rw [upd_ne (fun w => hz (.inr (.inl w))), upd_ne (fun w => hz (.inr (.inr (.inl w))))]) (tb2.delS se2.pts) gf
        exact hm v F3 H3 p q gg se4 n4 (delS_in (.inr (.inl rfl))) (delS_in (.inr (.inr rfl))) hv
      · rw [if_neg hU] at hm; exact hm.elim
    · cases z with
      | bool kb => cases kb with
        | true =>
          refine ⟨_, rfl, a, SC K, dx, _, _, rfl, h1, C.cl, C.nU, sesF_U, Nat.zero_le _, fun l hl => ?_⟩
          have g0 : Gr0 K Fz H Fz (upd H l (.lst [])) := .newH sm hl
          refine ⟨Fz, .list U, .list [], _, g0.fh, .inr ⟨q, vU, U, rfl, rfl, by rw [upd_ne (ne_of_none h3 hl)]; exact h3, h6⟩, .inr ⟨l, [], [], rfl, rfl, upd_same, .nil⟩, hE, fun v F1 H1 g1 hv => ?_⟩
          cases hv
          refine ⟨_, rfl, ?_⟩
          obtain ⟨C', gC', hE2⟩ := hm F1 H1 (g0.trans g1)
          rw [gCx] at gC'
          cases gC'
          exact hE2
        | false => exact absurd rfl hz
      | _ => exact hm.elim
/-! __len__ -/
theorem sc_len : FnScope ["self"] ["self"] (defScope (meth 1)) := ⟨rfl, rfl, rfl, by decide +kernel, rfl, by decide +kernel, by decide +kernel⟩
theorem ok_len {P : Program} {w : World} {K : PySem.W.Frag} {mg : Str → Option Value} {base : Heap} {f : Addr} {fd : FuncData} (g : Glob K mg) (F : Fun K "__len__" "Session.__len__" (meth 1) f fd) (C : SesC K) :
    FnOk P w K mg base CX0 1 f fd ["self"] (spQ K F_len) := by
  refine F.ok sc_len (fun vs H Q E h => ?_) fun cdv A outer s H vs Q E hr h => ⟨_, pss_one (ps_ret (pe_callB call_len_seq (by rfl) g.len_ PySem.boot_len (pa_cons (pe_fld (pv 0) rfl) pa_nil))), ?_⟩
  · obtain ⟨Fz, a, p, q, L, D, U, rfl, _⟩ := h
    rfl
  · obtain ⟨Fz, a, p, q, L, D, U, rfl, sm, tb, se, n, hm⟩ := h
    obtain ⟨dx, vL, vD, vU, h1, h2, h3, h4, h5, h6, h7⟩ := id se
    unfold F_len at hm
    by_cases hl : D.length ≤ 100000
    · rw [if_pos hl] at hm
      refine ⟨_, rfl, a, SC K, dx, _, _, rfl, h1, C.cl, C.nD, sesF_D, p, _, rfl, .inl (SqL.of h2), ?_⟩
      rw [h5.length]
      exact hm _ Fz H (.refl sm) (.int _)
    · rw [if_neg hl] at hm; exact hm.elim
/-! __init__ -/
theorem sc_init : FnScope ["self", "ladder"] ["self", "ladder"] (defScope (meth 0)) := ⟨rfl, rfl, rfl, by decide +kernel, rfl, by decide +kernel, by decide +kernel⟩
theorem ok_init {P : Program} {w : World} {K : PySem.W.Frag} {mg : Str → Option Value} {base : Heap} {f : Addr} {fd : FuncData} (F : Fun K "__init__" "Session.__init__" (meth 0) f fd) (C : SesC K) (c_check_ladder : CalX P w K mg base "check_ladder" 5 1 ["value"] F_X_check_ladder) :
    FnOk P w K mg base (L2.CX P w) 6 f fd ["self", "ladder"] (spI K mg F_X_init) := by
  obtain ⟨f_c, fd_c, ok_c, mg_c, kp_c, bd_c⟩ := c_check_ladder
  refine F.okX sc_init (fun vs H Q E h => ?_) fun cdv A outer s H vs Q E hr h => ⟨_, pss_cons (ps_expr (pe_callS (E := WE (fun cls d _ H => E cls d H)) ok_c (hr.mono (by decide : 5 ≤ 5)) rfl mg_c kp_c bd_c (passAt (takes_of rfl rfl rfl rfl)) (pa_cons (pv 1) pa_nil)))
    (pss_cons (ps_fld (pv 0) (pv 1) rfl) (pss_cons (ps_fld (pv 0) (pe_lst pa_nil) rfl) (pss_one (ps_fld (pv 0) (pe_lst pa_nil) rfl)))), ?_⟩
  · obtain ⟨Fz, H0, a, dx, v, L, rfl, _⟩ := h
    rfl
  · obtain ⟨Fz, H0, a, dx, v, L, rfl, sm0, tb0, g0, na, ha, hv, hm⟩ := h
    refine ⟨_, rfl, Fz, [L], g0.fh, g0.tb tb0, .cons hv .nil, rfl, ?_⟩
    unfold F_X_init at hm
    cases hC : F_X_check_ladder [L] with
    | exc c => rw [hC] at hm; exact fun F' H' g => hm F' H' (g0.trans g)
    | bad => rw [hC] at hm; exact hm.elim
    | ok u =>
    rw [hC] at hm
    simp only at hm ⊢
    intro _ F1 H1 g1 _
    have g01 := g0.trans g1
    have ha1 : H1 a = some (.ins (SC K) dx []) := g1.kp _ _ ha (fun z => z) nt_ins
    have fa1 : F1 a = none := g1.nn (sm0.free na) (by rw [ha]; exact fun z => nomatch z)
    refine ⟨_, rfl, _, rfl, a, SC K, dx, [], rfl, ha1, C.cl, C.nL, (by show 0 < 1000; decide), ?_⟩
    refine ⟨Nat.zero_le _, fun p hp => ?_⟩
    have nap : a ≠ p := fun z => by rw [← z, upd_same] at hp; cases hp
    have hp1 : H1 p = none := by rw [upd_ne (Ne.symm nap)] at hp; exact hp
    refine ⟨_, rfl, a, SC K, dx, _, rfl, by rw [upd_ne nap, upd_same], C.cl, C.nD, (by show 1 < 1000; decide), ?_⟩
    refine ⟨Nat.zero_le _, fun q hq => ?_⟩
    have naq : a ≠ q := fun z => by rw [← z, upd_same] at hq; cases hq
    have npq : p ≠ q := fun z => by rw [← z, upd_ne (Ne.symm nap), upd_same] at hq; cases hq
    have hq1 : H1 q = none := by rw [upd_ne (Ne.symm naq), upd_ne (Ne.symm npq), upd_ne (Ne.symm naq)] at hq; exact hq
    refine ⟨_, rfl, a, SC K, dx, _, rfl, by rw [upd_ne naq, upd_same], C.cl, C.nU, (by show 2 < 1000; decide), ?_⟩
    rw [sesF_new]
    have nx : ∀ x, H1 x = none → H0 x = none := fun x hx => Classical.byContradiction fun z => g01.th x z hx
    have fp1 : F1 p = none := g1.fh.free hp1
    have fq1 : F1 q = none := g1.fh.free hq1
    refine hm F1 _ p q ⟨g01.ff, fun b o e => ?_, g01.nw, fun b o e m nt => ?_, fun b e => ?_, fun t => ?_⟩ ⟨dx, v, [], [], upd_same, by rw [upd_ne (Ne.symm nap), upd_ne npq, upd_ne (Ne.symm nap), upd_same], by rw [upd_ne (Ne.symm naq), upd_same], hv.mono g1.ff, .nil, .nil, npq⟩ ⟨fa1, fp1, fq1⟩ (nx p hp1) (nx q hq1)
    · rw [upd_ne (ne_of_none e fa1), upd_ne (ne_of_none e fq1), upd_ne (ne_of_none e fa1), upd_ne (ne_of_none e fp1), upd_ne (ne_of_none e fa1)]
      exact g1.fh b o e
    · have hb : b ≠ a := fun z => by rw [z, na] at e; cases e
      have e1 := g01.kp b o e m nt
      rw [upd_ne hb, upd_ne (ne_of_none e1 hq1), upd_ne hb, upd_ne (ne_of_none e1 hp1), upd_ne hb]
      exact e1
    · have e1 := g01.th b e
      intro z
      have hb : b ≠ a := fun z => e (by rw [z]; exact na)
      rw [upd_ne hb] at z
      by_cases hbq : b = q
      · rw [hbq, upd_same] at z; cases z
      · rw [upd_ne hbq, upd_ne hb] at z
        by_cases hbp : b = p
        · rw [hbp, upd_same] at z; cases z
        · rw [upd_ne hbp, upd_ne hb] at z; exact e1 z
    · have t1 := (g01.tb t).mut (o' := .ins (SC K) dx (putF "ladder" v [])) ha1 nt_ins
      have t2 := t1.newH (p := p) (o := .lst []) hp
      have t3 := t2.mut (p := a) (o := .ins (SC K) dx (putF "ladder" v [])) (o' := .ins (SC K) dx (putF "done" (.ref p) (putF "ladder" v []))) (by rw [upd_ne nap, upd_same]) nt_ins
      have t4 := t3.newH (p := q) (o := .lst []) hq
      exact t4.mut (p := a) (o := .ins (SC K) dx (putF "done" (.ref p) (putF "ladder" v []))) (by rw [upd_ne naq, upd_same]) nt_ins
/-! __str__ -/
theorem sc_str : FnScope ["self", "whole"] ["self"] (defScope (meth 3)) := ⟨rfl, rfl, rfl, by decide +kernel, rfl, by decide +kernel, by decide +kernel⟩
theorem ok_str {P : Program} {w : World} {K : PySem.W.Frag} {mg : Str → Option Value} {base : Heap} {f fT : Addr} {fd fdT : FuncData} (g : Glob K mg) (F : Fun K "__str__" "Session.__str__" (meth 3) f fd) (C : SesC K)
    (mT : Meth K (SC K) "total" fT) (okT : FnOk P w K mg base CX0 5 fT fdT ["self"] (spQ K F_total)) (bT : Binds K fdT ["self"] []) :
    FnOk P w K mg base CX0 6 f fd ["self"] (spQ K F_str) := by
  refine F.ok sc_str (fun vs H Q E h => ?_) fun cdv A outer s H vs Q E hr h => ⟨_, pss_cons (ps_set (i := 1) sc_str.nd rfl (.inl rfl) (pe_meth0 (pv 0) C.cl mT okT (hr.mono (by decide : 5 ≤ 5)) bT .nil pass0))
    (pss_one (ps_ret (pe_joined (.cons (pe_fmt (pe_callB call_len_seq (by rfl) g.len_ PySem.boot_len (pa_cons (pe_fld (pv 0) rfl) pa_nil))) (.cons pe_str (.cons (pe_fmt (pe_ix ix_D (pv 1) pe_int (fun _ _ => rfl))) (.cons pe_str (.cons (pe_fmt (pe_ix ix_D (pv 1) pe_int (fun _ _ => rfl))) (.cons pe_str .nil))))))))), ?_⟩
  · obtain ⟨Fz, a, p, q, L, D, U, rfl, _⟩ := h
    rfl
  · obtain ⟨Fz, a, p, q, L, D, U, rfl, sm, tb, se, n, hm⟩ := h
    obtain ⟨dx, vL, vD, vU, h1, h2, h3, h4, h5, h6, h7⟩ := id se
    unfold F_str at hm
    cases hT : F_total L D U with
    | exc c => rw [hT] at hm; exact hm.elim
    | bad => rw [hT] at hm; exact hm.elim
    | ok t =>
    rw [hT] at hm
    cases ht : twoI t with
    | some ij =>
      obtain ⟨i, j⟩ := ij
      obtain rfl := twoI_eq ht
      simp only [ht] at hm
      by_cases hc : D.length ≤ 1000 ∧ i.natAbs.log2 < 1920 ∧ j.natAbs.log2 < 1920 ∧ (((((Str.empty ++ toString (D.length : Int)) ++ " amounts, ") ++ toString i) ++ "/") ++ toString j ++ " in all").length ≤ 90000
      · rw [if_pos hc] at hm
        obtain ⟨c1, c2, c3, c4⟩ := hc
        simp only [Str.length_append] at c4
        refine ⟨_, rfl, a, dx, _, rfl, h1, sesF_no nf_total.l nf_total.d nf_total.u, Fz, a, p, q, L, D, U, rfl, sm, tb, se, n, ?_⟩
        rw [hT]
        intro v F1 H1 g1 hv
        have se1 := se.grow g1
        obtain ⟨dx1, vL1, vD1, vU1, k1, k2, k3, k4, k5, k6, k7⟩ := id se1
        refine ⟨_, rfl, a, SC K, dx1, _, _, rfl, k1, C.cl, C.nD, sesF_D, p, _, rfl, .inl (SqL.of k2), .inr ⟨_, rfl, ?_, _, rfl, ?_, ?_⟩⟩
        · rw [k5.length]
          have : ((D.length : Int)).natAbs = D.length := rfl
          rw [this]
          exact Nat.lt_of_le_of_lt (Nat.log2_le_self _) (Nat.lt_of_le_of_lt c1 (by decide))
        · rw [k5.length, Str.length_append]
          exact Nat.le_trans (m := 90000) (by omega) (by decide)
        · rw [k5.length]
          refine ⟨_, rfl, by simp only [Str.length_append]; exact Nat.le_trans (m := 90000) (by omega) (by decide), ?_⟩
          refine ⟨_, rfl, F1, .tuple [.int i, .int j], .int 0, .int i, g1.fh, .inl hv, .inl (.int 0), rfl, fun v2 F2 H2 g2 hv2 => ?_⟩
          cases hv2
          refine .inr ⟨_, rfl, c2, _, rfl, by simp only [Str.length_append]; exact Nat.le_trans (m := 90000) (by omega) (by decide), ?_⟩
          refine ⟨_, rfl, by simp only [Str.length_append]; exact Nat.le_trans (m := 90000) (by omega) (by decide), ?_⟩
          refine ⟨_, rfl, F2, .tuple [.int i, .int j], .int 1, .int j, g2.fh, .inl (hv.mono g2.ff), .inl (.int 1), rfl, fun v3 F3 H3 g3 hv3 => ?_⟩
          cases hv3
          refine .inr ⟨_, rfl, c3, _, rfl, by simp only [Str.length_append]; exact Nat.le_trans (m := 90000) (by omega) (by decide), ?_⟩
          refine ⟨_, rfl, by simp only [Str.length_append]; exact Nat.le_trans (m := 90000) (by omega) (by decide), ?_⟩
          exact hm _ F3 H3 ((g1.trans g2).trans g3) (.str _)
      · rw [if_neg hc] at hm; exact hm.elim
    | none => first | (simp only [ht] at hm; done) | (simp only [ht] at hm; exact hm.elim)
/-! __eq__ -/
theorem sc_eq : FnScope ["self", "other"] ["self", "other"] (defScope (meth 2)) := ⟨rfl, rfl, rfl, by decide +kernel, rfl, by decide +kernel, by decide +kernel⟩
theorem ok_eq {P : Program} {w : World} {K : PySem.W.Frag} {mg : Str → Option Value} {base : Heap} {f : Addr} {fd : FuncData} (g : Glob K mg) (mgS : mg "Session" = some (.ref (SC K))) (F : Fun K "__eq__" "Session.__eq__" (meth 2) f fd) (C : SesC K) (Sd : SesD K) :
    FnOk P w K mg base CX0 1 f fd ["self", "other"] (spE K) := by
  refine F.ok sc_eq (fun vs H Q E h => ?_) fun cdv A outer s H vs Q E hr h => ⟨_, pss_one (ps_ret (pe_and (pe_callB call_isi (by rfl) g.isinstance (by decide +kernel) (pa_cons (pv 1) (pa_cons (pe_glob (v := .ref (SC K)) rfl mgS rfl) pa_nil)))
    (pe_and (pe_cmpR (op_eqQ (units64 hr)) (pe_fld (pv 0) rfl) (pe_fld (pv 1) rfl) (nomark _)) (pe_one (pe_cmpR (op_eqQ (units64 hr)) (pe_fld (pv 0) rfl) (pe_fld (pv 1) rfl) (nomark _)))))), ?_⟩
  · obtain ⟨Fz, a, p, q, L, D, U, y, rfl, _⟩ := h
    rfl
  · obtain ⟨Fz, a, p, q, L, D, U, y, rfl, sm, tb, se, hm⟩ := h
    obtain ⟨dx, vL, vD, vU, h1, h2, h3, h4, h5, h6, h7⟩ := id se
    rcases hm with ⟨b, p', q', L', D', U', rfl, se', hm⟩ | ⟨t, ty, ht, hm⟩
    · obtain ⟨dx', vL', vD', vU', k1, k2, k3, k4, k5, k6, k7⟩ := id se'
      refine ⟨_, rfl, .ref b, .ref (SC K), .ref (SC K), .ref (SC K), true, rfl, .own _, .base (.ins k1 C.cl Sd.ca Sd.cn Sd.ct Sd.cm), Sd.k0, true, rfl, ?_⟩
      rw [if_pos rfl]
      refine ⟨_, rfl, a, SC K, dx, _, _, rfl, h1, C.cl, C.nL, sesF_L, _, rfl, b, SC K, dx', _, _, rfl, k1, C.cl, C.nL, sesF_L, ?_⟩
      unfold eqS at hm
      cases hE : eqD L L' with
      | none => rw [hE] at hm; exact hm.elim
      | some z =>
      rw [hE] at hm
      refine ⟨Fz, L, L', z, sm, .inl h4, .inl k4, hE, fun v F1 H1 g1 hv => ?_⟩
      cases z with
      | bool kb =>
        cases hv
        refine ⟨kb, rfl, ?_⟩
        cases kb with
        | true =>
          rw [if_pos rfl]
          simp only at hm
          have s1 := se.grow g1
          have s2 := se'.grow g1
          obtain ⟨ex, wL, wD, wU, j1, j2, j3, j4, j5, j6, j7⟩ := id s1
          obtain ⟨ex', wL', wD', wU', i1, i2, i3, i4, i5, i6, i7⟩ := id s2
          refine ⟨_, rfl, a, SC K, ex, _, _, rfl, j1, C.cl, C.nD, sesF_D, _, rfl, b, SC K, ex', _, _, rfl, i1, C.cl, C.nD, sesF_D, ?_⟩
          cases hD : eqD (.list D) (.list D') with
          | none => rw [hD] at hm; exact hm.elim
          | some zd =>
          rw [hD] at hm
          refine ⟨F1, .list D, .list D', zd, g1.fh, .inr ⟨p, wD, D, rfl, rfl, j2, j5⟩, .inr ⟨p', wD', D', rfl, rfl, i2, i5⟩, hD, fun v F2 H2 g2 hv => ?_⟩
          cases zd with
          | bool kd =>
            cases hv
            exact hm F2 H2 (g1.trans g2)
          | _ => exact hm.elim
        | false =>
          rw [if_neg (by decide)]
          exact hm F1 H1 g1
      | _ => exact hm.elim
    · have hk : PySem.W.kitOne K (.type t) (.ref (SC K)) = some false := by
        rcases ht with rfl | rfl
        · exact Sd.kL
        · exact Sd.kS
      refine ⟨_, rfl, y, .ref (SC K), .type t, .ref (SC K), false, rfl, .own _, ty, hk, false, rfl, ?_⟩
      rw [if_neg (by decide)]
      exact hm Fz H (.refl sm)
/-! the law's own call, its outcome -/
theorem sc_lcall : FnScope ["way", "arguments"] ["way", "arguments"] (defScope (top 67)) := ⟨rfl, rfl, rfl, by decide +kernel, rfl, by decide +kernel, by decide +kernel⟩
theorem xe_E {mg : Str → Option Value} {E : XK} {c : Str} {H : Hp} (h : XEof mg E c H) : XEof mg (EW (fun cls d _ H => E cls d H)) c H := by
  obtain ⟨C, h1, h2⟩ := h
  exact ⟨C, h1, fun _ => h2⟩
section
variable {P : Program} {w : World} {K : PySem.W.Frag} {mg : Str → Option Value} {base : Heap} {f fU fR : Addr} {fd fdU fdR : FuncData}
theorem ok_lcallS (F : Fun K "_law_call" "_law_call" (top 67) f fd) (C : SesC K)
    (mU : Meth K (SC K) "undo" fU) (okU : FnOk P w K mg base (L2.CX P w) 1 fU fdU ["self"] (spM K mg 0 F_X_undo)) (bU : Binds K fdU ["self"] [])
    (mR : Meth K (SC K) "redo" fR) (okR : FnOk P w K mg base (L2.CX P w) 1 fR fdR ["self"] (spM K mg 0 F_X_redo)) (bR : Binds K fdR ["self"] []) (M_load : MLd P w K mg base 12 F_load) :
    FnOk P w K mg base (L2.CX P w) 13 f fd ["way", "arguments"] (spC2 K mg (lcall2 F_X_undo F_X_redo)) := by
  obtain ⟨f_l, fd_l, ok_l, mg_l, kp_l, bd_l⟩ := M_load
  refine F.okX sc_lcall (fun vs H Q E h => ?_) fun cdv A outer s H vs Q E hr h => ⟨_, pss_cons (ps_if (pt_cmpR op_eq (pv 0) pe_int (nomark _)) (pss_one (ps_ret (pe_callS (E := WE (fun cls d _ H => E cls d H)) ok_l (hr.mono (by decide : 12 ≤ 12)) rfl mg_l kp_l bd_l (passAt (takes_of rfl rfl rfl rfl)) (pa_cons (pv 1) pa_nil)))) pss_nil)
    (pss_one (ps_ret (pe_ifExp (pt_cmpR op_eq (pv 0) pe_int (nomark _))
      (pe_meth0 (pv 1) C.cl mU okU (hr.mono (by decide : 1 ≤ 12)) bU .nil (passW (W := fun cls d _ H => E cls d H) (takes_of rfl rfl rfl rfl)))
      (pe_meth0 (pv 1) C.cl mR okR (hr.mono (by decide : 1 ≤ 12)) bR .nil (passW (W := fun cls d _ H => E cls d H) (takes_of rfl rfl rfl rfl)))))), ?_⟩
  · obtain ⟨Fz, a, p, q, L, D, U, way, rfl, _⟩ := h
    rfl
  · obtain ⟨Fz, a, p, q, L, D, U, way, rfl, sm, tb, se, n, hm⟩ := h
    obtain ⟨dx, vL, vD, vU, h1, h2⟩ := id se
    unfold lcall2 at hm
    by_cases w0 : way = 0
    · subst w0
      rw [if_pos rfl] at hm
      refine ⟨_, rfl, rfl, _, rfl, ?_⟩
      show (if decide ((0 : Int) = 2) = true then _ else _)
      rw [if_neg (by decide)]
      refine ⟨_, rfl, rfl, _, rfl, ?_⟩
      show (if decide ((0 : Int) = 0) = true then _ else _)
      rw [if_pos (by decide)]
      refine ⟨_, rfl, a, dx, _, rfl, h1, sesF_no nf_undo.l nf_undo.d nf_undo.u, Fz, a, p, q, L, D, U, [], [], rfl, sm, tb, se, n, .nil, rfl, ?_⟩
      cases hF : F_X_undo L D U [] with
      | ok r => rw [hF] at hm; exact hm
      | exc c => rw [hF] at hm; exact fun F' H' g => xe_E (hm F' H' g)
      | bad => rw [hF] at hm; exact hm.elim
    · rw [if_neg w0] at hm
      by_cases w1 : way = 1
      · subst w1
        rw [if_pos rfl] at hm
        refine ⟨_, rfl, rfl, _, rfl, ?_⟩
        show (if decide ((1 : Int) = 2) = true then _ else _)
        rw [if_neg (by decide)]
        refine ⟨_, rfl, rfl, _, rfl, ?_⟩
        show (if decide ((1 : Int) = 0) = true then _ else _)
        rw [if_neg (by decide)]
        refine ⟨_, rfl, a, dx, _, rfl, h1, sesF_no nf_redo.l nf_redo.d nf_redo.u, Fz, a, p, q, L, D, U, [], [], rfl, sm, tb, se, n, .nil, rfl, ?_⟩
        cases hF : F_X_redo L D U [] with
        | ok r => rw [hF] at hm; exact hm
        | exc c => rw [hF] at hm; exact fun F' H' g => xe_E (hm F' H' g)
        | bad => rw [hF] at hm; exact hm.elim
      · rw [if_neg w1] at hm; exact hm.elim
theorem ok_lcallD (F : Fun K "_law_call" "_law_call" (top 67) f fd) (C : SesC K)
    (mU : Meth K (SC K) "undo" fU) (okU : FnOk P w K mg base (L2.CX P w) 1 fU fdU ["self"] (spM K mg 0 F_X_undo)) (bU : Binds K fdU ["self"] [])
    (mR : Meth K (SC K) "redo" fR) (okR : FnOk P w K mg base (L2.CX P w) 1 fR fdR ["self"] (spM K mg 0 F_X_redo)) (bR : Binds K fdR ["self"] []) (M_load : MLd P w K mg base 12 F_load) :
    FnOk P w K mg base (L2.CX P w) 13 f fd ["way", "arguments"] (spCD K mg F_load) := by
  obtain ⟨f_l, fd_l, ok_l, mg_l, kp_l, bd_l⟩ := M_load
  refine F.okX sc_lcall (fun vs H Q E h => ?_) fun cdv A outer s H vs Q E hr h => ⟨_, pss_cons (ps_if (pt_cmpR op_eq (pv 0) pe_int (nomark _)) (pss_one (ps_ret (pe_callS (E := WE (fun cls d _ H => E cls d H)) ok_l (hr.mono (by decide : 12 ≤ 12)) rfl mg_l kp_l bd_l (passAt (takes_of rfl rfl rfl rfl)) (pa_cons (pv 1) pa_nil)))) pss_nil)
    (pss_one (ps_ret (pe_ifExp (pt_cmpR op_eq (pv 0) pe_int (nomark _))
      (pe_meth0 (pv 1) C.cl mU okU (hr.mono (by decide : 1 ≤ 12)) bU .nil (passW (W := fun cls d _ H => E cls d H) (takes_of rfl rfl rfl rfl)))
      (pe_meth0 (pv 1) C.cl mR okR (hr.mono (by decide : 1 ≤ 12)) bR .nil (passW (W := fun cls d _ H => E cls d H) (takes_of rfl rfl rfl rfl)))))), ?_⟩
  · obtain ⟨Fz, v, x, rfl, _⟩ := h
    rfl
  · obtain ⟨Fz, v, x, rfl, sm, tb, hx, hm⟩ := h
    refine ⟨_, rfl, rfl, _, rfl, ?_⟩
    show (if decide ((2 : Int) = 2) = true then _ else _)
    rw [if_pos (by decide)]
    refine ⟨_, rfl, Fz, [x], sm, tb, .cons hx .nil, rfl, ?_⟩
    cases hF : F_load [x] with
    | ok r => rw [hF] at hm; exact hm.elim
    | exc c => rw [hF] at hm; exact fun F' H' g => hm F' H' g
    | bad => rw [hF] at hm; exact hm.elim
theorem outD_ok {Fl : List Dt → Res SV} {Fn : Str → Res Dt} {ds : List Dt} {r : Dt} (h : outD Fl Fn ds = .ok r) : ∃ x c d, ds = [.int 2, x] ∧ Fl [x] = .exc c ∧ c ∈ excN ∧ Fn c = .ok d ∧ r = .tuple [.str "raised", d] := by
  unfold outD at h
  split at h
  · rename_i wy x
    by_cases hw : wy = 2
    · subst hw
      rw [if_pos rfl] at h
      cases hF : Fl [x] with
      | exc c =>
        rw [hF] at h
        simp only at h
        by_cases hm : c ∈ excN
        · rw [if_pos hm] at h
          cases hN : Fn c with
          | ok d => rw [hN] at h; cases h; exact ⟨x, c, d, rfl, hF, hm, hN, rfl⟩
          | exc c' => rw [hN] at h; cases h
          | bad => rw [hN] at h; cases h
        · rw [if_neg hm] at h; cases h
      | ok r => rw [hF] at h; cases h
      | bad => rw [hF] at h; cases h
    · rw [if_neg hw] at h; cases h
  · cases h
theorem sc_out : FnScope ["way", "arguments", "caught", "result", "error"] ["way", "arguments"] (defScope (top 60)) := ⟨rfl, rfl, rfl, by decide +kernel, rfl, by decide +kernel, by decide +kernel⟩
theorem ok_outS {fC : Addr} {fdC : FuncData} (EF : ExF K mg) (F : Fun K "_law_outcome" "_law_outcome" (top 60) f fd)
    (okC : FnOk P w K mg base (L2.CX P w) 13 fC fdC ["way", "arguments"] (spC2 K mg (lcall2 F_X_undo F_X_redo))) (mgC : mg "_law_call" = some (.ref fC)) (kpC : PySem.W.keepIn K (.ref fC) = true) (bC : Binds K fdC ["way", "arguments"] [])
    (c_name : CalN P w K mg base "_law_name" 1 ["caught"] F__law_name) :
    FnOk P w K mg base CX0 14 f fd ["way", "arguments"] (spO2 K (lcall2 F_X_undo F_X_redo) F__law_name) := by
  obtain ⟨f_n, fd_n, ok_n, mg_n, kp_n, bd_n⟩ := c_name
  have sc := sc_out
  refine F.ok sc_out (fun vs H Q E h => ?_) fun cdv A outer s H vs Q E hr h => ⟨_, pss_cons (ps_set (i := 2) sc.nd rfl (.inl rfl) pe_non) (pss_cons (ps_set (i := 3) sc.nd rfl (.inl rfl) pe_non)
    (pss_cons (ps_tryO (jr := 3) (jc := 2) (ie := 4) EF rfl rfl rfl sc.nd rfl rfl rfl (Or.inl rfl) (Or.inl rfl) rfl rfl okC (hr.mono (by decide : 13 ≤ 13)) rfl mgC kpC bC (fun _ _ => pa_cons (pv 0) (pa_cons (pv 1) pa_nil)) (fun _ _ _ => pv 4))
    (pss_cons (ps_if (pt_cmpR op_isN (pv 2) pe_non (nomark _)) (pss_one (ps_ret (pe_tupP (pa_cons pe_str (pa_cons (pv 3) pa_nil))))) pss_nil)
    (pss_one (ps_ret (pe_tupP (pa_cons pe_str (pa_cons (pe_call ok_n (hr.mono (by decide : 1 ≤ 13)) rfl mg_n kp_n bd_n .nil pass0 (pa_cons (pv 2) pa_nil)) pa_nil)))))))), ?_⟩
  · obtain ⟨Fz, a, p, q, L, D, U, way, rfl, _⟩ := h
    rfl
  · obtain ⟨Fz, a, p, q, L, D, U, way, rfl, sm, tb, se, n, hm⟩ := h
    refine ⟨_, rfl, _, rfl, Fz, a, p, q, L, D, U, way, rfl, sm, tb, se, n, ?_⟩
    cases hF : lcall2 F_X_undo F_X_redo way L D U with
    | bad => rw [hF] at hm; exact hm.elim
    | ok r =>
      rw [hF] at hm
      intro v1 F1 H1 p1 q1 g1 s1 n1 np nq hv1
      refine ⟨_, rfl, rfl, _, rfl, ?_⟩
      show (if decide (V.non = V.non) = true then _ else _)
      rw [if_pos (by decide)]
      refine ⟨_, rfl, by show 2 ≤ sizeLine; decide, fun tp o htp ho => ?_⟩
      have g2 : Gr0 K F1 H1 (upd F1 tp (.frz o (.tup [.str "returned", v1]))) (upd H1 tp (.frz o (.tup [.str "returned", v1]))) := .new g1.fh htp
      obtain ⟨r1, r2⟩ := r
      cases r2 with
      | se L' D' U' =>
        have s1 : SesAt K F1 H1 a p1 q1 L' D' U' := s1
        exact hm _ _ _ p1 q1 (g1.trans g2) (s1.grow g2) (s1.n3 g2 n1) np nq (.tup (.inl (.inr ⟨o, upd_same⟩)) ((DqAll.cons (.str _) (.one hv1)).mono g2.ff) (.inl ⟨o, upd_same, ho⟩))
      | _ => exact s1.elim
    | exc c =>
      rw [hF] at hm
      obtain ⟨hmem, hm⟩ := hm
      intro F1 H1 g1
      refine ⟨He.ga K c, EF.glo c hmem, true, EF.exm c hmem, fun _ => ⟨rfl, fun ea na => ⟨.ref ea, rfl, fun na' => ?_⟩⟩, fun z => nomatch z⟩
      have g2 : Gr0 K F1 H1 (upd F1 ea (KxO (.ref (He.ga K c)) ea)) (upd H1 ea (KxO (.ref (He.ga K c)) ea)) := .new g1.fh na
      refine ⟨_, rfl, rfl, _, rfl, ?_⟩
      show (if decide (V.ref ea = V.non) = true then _ else _)
      rw [if_neg (fun z => nomatch of_decide_eq_true z)]
      refine ⟨_, rfl, upd F1 ea (KxO (.ref (He.ga K c)) ea), ea, c, rfl, g2.fh, g2.tb (g1.tb tb), upd_same, ?_⟩
      cases hN : F__law_name c with
      | exc c' => rw [hN] at hm; exact hm.elim
      | bad => rw [hN] at hm; exact hm.elim
      | ok d =>
        rw [hN] at hm
        intro v3 F3 H3 g3 hv3
        refine ⟨by show 2 ≤ sizeLine; decide, fun tp o htp ho => ?_⟩
        have g4 : Gr0 K F3 H3 (upd F3 tp (.frz o (.tup [.str "raised", v3]))) (upd H3 tp (.frz o (.tup [.str "raised", v3]))) := .new g3.fh htp
        exact hm _ _ _ ((g1.trans g2).trans (g3.trans g4)) (.tup (.inl (.inr ⟨o, upd_same⟩)) ((DqAll.cons (.str _) (.one hv3)).mono g4.ff) (.inl ⟨o, upd_same, ho⟩))
theorem ok_outD {fC : Addr} {fdC : FuncData} (EF : ExF K mg) (F : Fun K "_law_outcome" "_law_outcome" (top 60) f fd)
    (okC : FnOk P w K mg base (L2.CX P w) 13 fC fdC ["way", "arguments"] (spCD K mg F_load)) (mgC : mg "_law_call" = some (.ref fC)) (kpC : PySem.W.keepIn K (.ref fC) = true) (bC : Binds K fdC ["way", "arguments"] [])
    (c_name : CalN P w K mg base "_law_name" 1 ["caught"] F__law_name) :
    FnOk P w K mg base CX0 14 f fd ["way", "arguments"] (spP K 2 (outD F_load F__law_name)) := by
  obtain ⟨f_n, fd_n, ok_n, mg_n, kp_n, bd_n⟩ := c_name
  have sc := sc_out
  refine F.ok sc_out (fun vs H Q E h => ?_) fun cdv A outer s H vs Q E hr h => ⟨_, pss_cons (ps_set (i := 2) sc.nd rfl (.inl rfl) pe_non) (pss_cons (ps_set (i := 3) sc.nd rfl (.inl rfl) pe_non)
    (pss_cons (ps_tryO (jr := 3) (jc := 2) (ie := 4) EF rfl rfl rfl sc.nd rfl rfl rfl (Or.inl rfl) (Or.inl rfl) rfl rfl okC (hr.mono (by decide : 13 ≤ 13)) rfl mgC kpC bC (fun _ _ => pa_cons (pv 0) (pa_cons (pv 1) pa_nil)) (fun _ _ _ => pv 4))
    (pss_cons (ps_if (pt_cmpR op_isN (pv 2) pe_non (nomark _)) (pss_one (ps_ret (pe_tupP (pa_cons pe_str (pa_cons (pv 3) pa_nil))))) pss_nil)
    (pss_one (ps_ret (pe_tupP (pa_cons pe_str (pa_cons (pe_call ok_n (hr.mono (by decide : 1 ≤ 13)) rfl mg_n kp_n bd_n .nil pass0 (pa_cons (pv 2) pa_nil)) pa_nil)))))))), ?_⟩
  · obtain ⟨Fz, ds, _, _, hd, hl, _⟩ := h
    rw [hd.length, hl]; rfl
  · obtain ⟨Fz, ds, sm, tb, hd, hl, hm⟩ := h
    cases hO : outD F_load F__law_name ds with
    | bad => rw [hO] at hm; exact hm.elim
    | exc c => rw [hO] at hm; exact hm.elim
    | ok r =>
      rw [hO] at hm
      obtain ⟨x, c, d, rfl, hF, hmem, hN, rfl⟩ := outD_ok hO
      cases hd with
      | cons hd1 hd2 =>
        cases hd1
        cases hd2 with
        | cons hx hd3 =>
          cases hd3
          refine ⟨_, rfl, _, rfl, Fz, _, x, rfl, sm, tb, hx, ?_⟩
          rw [hF]
          intro F1 H1 g1
          refine ⟨He.ga K c, EF.glo c hmem, true, EF.exm c hmem, fun _ => ⟨rfl, fun ea na => ⟨.ref ea, rfl, fun na' => ?_⟩⟩, fun z => nomatch z⟩
          have g2 : Gr0 K F1 H1 (upd F1 ea (KxO (.ref (He.ga K c)) ea)) (upd H1 ea (KxO (.ref (He.ga K c)) ea)) := .new g1.fh na
          refine ⟨_, rfl, rfl, _, rfl, ?_⟩
          show (if decide (V.ref ea = V.non) = true then _ else _)
          rw [if_neg (fun z => nomatch of_decide_eq_true z)]
          refine ⟨_, rfl, upd F1 ea (KxO (.ref (He.ga K c)) ea), ea, c, rfl, g2.fh, g2.tb (g1.tb tb), upd_same, ?_⟩
          rw [hN]
          intro v3 F3 H3 g3 hv3
          refine ⟨by show 2 ≤ sizeLine; decide, fun tp o htp ho => ?_⟩
          have g4 : Gr0 K F3 H3 (upd F3 tp (.frz o (.tup [.str "raised", v3]))) (upd H3 tp (.frz o (.tup [.str "raised", v3]))) := .new g3.fh htp
          exact hm _ _ _ ((g1.trans g2).trans (g3.trans g4)) (.tup (.inl (.inr ⟨o, upd_same⟩)) ((DqAll.cons (.str _) (.one hv3)).mono g4.ff) (.inl ⟨o, upd_same, ho⟩))
end
end Sx

namespace Sx
open PySem PySem.Spec PyProof.Rows L2
def lB_law_1 : SS :=
    (sExprX (xMeth 2 1 F_X_put (aCons (eCall 2 F__law_frac (aCons (eCallT 1 F__law_draw (eVar 0) 1 (aCons (eC (.int 400)) aNil)) (aCons (eCallT 1 F__law_pick (eVar 0) 1 (aCons (eFrz (lLst (aCons (eC (.int 1)) (aCons (eC (.int 2)) (aCons (eC (.int 4)) (aCons (eC (.int 5)) aNil)))))) aNil)) aNil))) aNil)))
def lB_law_2 : SS :=
    (sExprX (xOut1 2 (lcall2 F_X_undo F_X_redo) F__law_name (eC (.int 0))))
def lB_law_3 : SS :=
    (sIfX (xbOr (xbOf (xBin neD (xOut1 2 (lcall2 F_X_undo F_X_redo) F__law_name (eVar 7)) (xOut1 6 (lcall2 F_X_undo F_X_redo) F__law_name (eVar 7)))) (xbP (bOf (eBin neD (eQ 2 F_paid) (eQ 6 F_paid))))) (sRet (eC (.bool false))) sPass)
def lB_law_4 : SS :=
    (sSeq (sAsg 8 (eBin addD (eC (.int 1)) (eCallT 1 F__law_draw (eVar 0) 1 (aCons (eCB lenD (aCons (eVar 5) aNil)) aNil))))
    (sIf (bOf (eBin neD (eCall 2 (outD F_load F__law_name) (aCons (eC (.int 2)) (aCons (eSlice (eVar 5) oNone (oSome (eBin subD (eCB lenD (aCons (eVar 5) aNil)) (eVar 8)))) aNil))) (eCall 1 F__law_raises (aCons (eC (.str "text")) aNil)))) (sRet (eC (.bool false))) sPass))
def cE_law_5 : SE :=
    (eCall 2 (outD F_load F__law_name) (aCons (eC (.int 2)) (aCons (eVar 9) aNil)))
def B_law : SS :=
    (sSeq (sTown 1 (lCall 1 F__law_town (aCons (eVar 0) aNil)))
    (sSeq (sNewS 2 F_X_init (eCallT 1 F__law_ladder (eVar 0) 1 (aCons (eC (.int 4)) aNil)))
    (sSeq (sFor (iRng (aCons (eCallT 1 F__law_draw (eVar 0) 1 (aCons (eC (.int 9)) aNil)) aNil)) (gN 3) lB_law_1)
    (sSeq (sFor (iRng (aCons (eCallT 1 F__law_draw (eVar 0) 1 (aCons (eC (.int 6)) aNil)) aNil)) (gN 3) lB_law_2)
    (sSeq (sAsg 4 (eTup (aCons (eQ 2 F_total) (aCons (eQ 2 F_paid) aNil))))
    (sSeq (sAsg 5 (eQ 2 F_save))
    (sSeq (sIf (bOr (bNot (bOf (eUn (isiD "str") (eVar 5)))) (bOf (eBin neD (eTup (aCons (eQ 2 F_total) (aCons (eQ 2 F_paid) aNil))) (eVar 4)))) (sRet (eC (.bool false))) sPass)
    (sSeq (sNewS 6 (fun d => F_load [d]) (eVar 5))
    (sSeq (sIf (bOr (bOf (eNeSS 6 2)) (bOr (bOf (eBin neD (eTup (aCons (eQ 6 F_total) (aCons (eQ 6 F_paid) aNil))) (eVar 4))) (bOf (eBin neD (eStrS 6 F_str) (eStrS 2 F_str))))) (sRet (eC (.bool false))) sPass)
    (sSeq (sFor (iSeq (eBin addD (eBin addD (eBin mulD (eFrz (lLst (aCons (eC (.int 1)) aNil))) (eC (.int 8))) (eBin mulD (eFrz (lLst (aCons (eC (.int 0)) aNil))) (eC (.int 17)))) (eBin mulD (eFrz (lLst (aCons (eC (.int 1)) aNil))) (eC (.int 4))))) (gN 7) lB_law_3)
    (sSeq (sFor (iRng (aCons (eC (.int 4)) aNil)) (gN 3) lB_law_4)
    (sRet (eBin eqD (eFrz (lComp (iSeq (eTup (aCons (eC .none) (aCons (eC (.int 5)) (aCons (eC (.bool true)) (aCons (eFrz (lLst (aCons (eVar 5) aNil))) (aCons (eTup (aCons (eVar 5) aNil)) aNil))))))) (gN 9) bYes cE_law_5 [9])) (eBin mulD (eFrz (lLst (aCons (eCall 1 F__law_raises (aCons (eC (.str "text")) aNil)) aNil))) (eC (.int 5))))))))))))))))
def F_law := runP 10 B_law

theorem sc_is_between : FnScope ["value", "low", "high"] ["value", "low", "high"] (defScope (top 18)) := ⟨rfl, rfl, rfl, by decide +kernel, rfl, by decide +kernel, by decide +kernel⟩
theorem cal_is_between {P : Program} {w : World} {K : PySem.W.Frag} {mg : Str → Option Value} {base : Heap} (g : Glob K mg) (F : ∃ f fd, FnP K "is_between" (top 18) f fd ∧ mg "is_between" = some (.ref f))  : CalP P w K mg base "is_between" 1 3 ["value", "low", "high"] F_is_between := by
  obtain ⟨f, fd, F, hm⟩ := F
  refine ⟨f, fd, ?_, hm, F.kp, F.bindsN fun _ _ _ _ _ _ us hl => match us, hl with | [_, _, _], _ => rfl⟩
  have sc := sc_is_between
  refine fn_P (toFun F) sc rfl fun cdv A outer s H E hr => ?_
  have hu := units64 hr
  have hu5 := units65 hr
  have hu1 := units1 hr
  exact (s_one (s_ret (d_and (d_isi rfl g.isinstance rfl g.int_ (by decide +kernel) (d_r (d_var (pv 0)))) (d_and (d_not (d_isi rfl g.isinstance rfl g.bool_ (by decide +kernel) (d_r (d_var (pv 0))))) (d_one (d_chain op_leD op_leD (d_r (d_var (pv 1))) (d_r (d_var (pv 0))) (d_r (d_var (pv 2)))))))))

theorem sc_divisor : FnScope ["one", "other"] ["one", "other"] (defScope (top 19)) := ⟨rfl, rfl, rfl, by decide +kernel, rfl, by decide +kernel, by decide +kernel⟩
theorem cal_divisor {P : Program} {w : World} {K : PySem.W.Frag} {mg : Str → Option Value} {base : Heap} (g : Glob K mg) (F : ∃ f fd, FnP K "divisor" (top 19) f fd ∧ mg "divisor" = some (.ref f))  : CalP P w K mg base "divisor" 1 2 ["one", "other"] F_divisor := by
  obtain ⟨f, fd, F, hm⟩ := F
  refine ⟨f, fd, ?_, hm, F.kp, F.bindsN fun _ _ _ _ _ _ us hl => match us, hl with | [_, _], _ => rfl⟩
  have sc := sc_divisor
  refine fn_P (toFun F) sc rfl fun cdv A outer s H E hr => ?_
  have hu := units64 hr
  have hu5 := units65 hr
  have hu1 := units1 hr
  exact (s_cons (s_while PassesOwn.never (c_cmp (op_neQ hu) (d_r (d_var (pv 1))) (d_r d_int) (nomark _)) (s_one (s_par2 (ps_par (i := 0) (j := 1) rfl sc.nd rfl rfl (by decide) rfl rfl (m_d (d_var (pv 1)) (m_d (d_bin op_modD (d_r (d_var (pv 0))) (d_r (d_var (pv 1)))) m_nil)) rfl))))
    (s_one (s_ret (d_callB cb_abs rfl g.abs_ (by decide +kernel) (r_cons (d_r (d_var (pv 0))) r_nil)))))

theorem sc_fraction : FnScope ["top", "bottom", "shared"] ["top", "bottom"] (defScope (top 20)) := ⟨rfl, rfl, rfl, by decide +kernel, rfl, by decide +kernel, by decide +kernel⟩
theorem cal_fraction {P : Program} {w : World} {K : PySem.W.Frag} {mg : Str → Option Value} {base : Heap} (g : Glob K mg) (F : ∃ f fd, FnP K "fraction" (top 20) f fd ∧ mg "fraction" = some (.ref f)) (c_divisor : CalP P w K mg base "divisor" 1 2 ["one", "other"] F_divisor) : CalP P w K mg base "fraction" 2 2 ["top", "bottom"] F_fraction := by
  obtain ⟨f, fd, F, hm⟩ := F
  obtain ⟨f_divisor, fd_divisor, ok_divisor, mg_divisor, kp_divisor, bd_divisor⟩ := c_divisor
  refine ⟨f, fd, ?_, hm, F.kp, F.bindsN fun _ _ _ _ _ _ us hl => match us, hl with | [_, _], _ => rfl⟩
  have sc := sc_fraction
  refine fn_P (toFun F) sc rfl fun cdv A outer s H E hr => ?_
  have hu := units64 hr
  have hu5 := units65 hr
  have hu1 := units1 hr
  exact (s_cons (s_asg (ps_set (i := 2) sc.nd rfl (Or.inl rfl) (d_call ok_divisor (hr.mono (by decide : 1 ≤ 1)) rfl mg_divisor kp_divisor bd_divisor (a_cons (d_var (pv 0)) (a_cons (d_var (pv 1)) a_nil)))))
    (s_one (s_ret (d_tup (a_cons (d_bin op_fdivD (d_r (d_var (pv 0))) (d_r (d_var (pv 2)))) (a_cons (d_bin op_fdivD (d_r (d_var (pv 1))) (d_r (d_var (pv 2)))) a_nil))))))

theorem sc_plus : FnScope ["one", "other"] ["one", "other"] (defScope (top 21)) := ⟨rfl, rfl, rfl, by decide +kernel, rfl, by decide +kernel, by decide +kernel⟩
theorem cal_plus {P : Program} {w : World} {K : PySem.W.Frag} {mg : Str → Option Value} {base : Heap} (g : Glob K mg) (F : ∃ f fd, FnP K "plus" (top 21) f fd ∧ mg "plus" = some (.ref f)) (c_fraction : CalP P w K mg base "fraction" 2 2 ["top", "bottom"] F_fraction) : CalP P w K mg base "plus" 3 2 ["one", "other"] F_plus := by
  obtain ⟨f, fd, F, hm⟩ := F
  obtain ⟨f_fraction, fd_fraction, ok_fraction, mg_fraction, kp_fraction, bd_fraction⟩ := c_fraction
  refine ⟨f, fd, ?_, hm, F.kp, F.bindsN fun _ _ _ _ _ _ us hl => match us, hl with | [_, _], _ => rfl⟩
  have sc := sc_plus
  refine fn_P (toFun F) sc rfl fun cdv A outer s H E hr => ?_
  have hu := units64 hr
  have hu5 := units65 hr
  have hu1 := units1 hr
  exact (s_one (s_ret (d_call ok_fraction (hr.mono (by decide : 2 ≤ 2)) rfl mg_fraction kp_fraction bd_fraction (a_cons (d_bin op_addD (d_r (d_bin op_mulD (d_r (d_ix ix_D (d_r (d_var (pv 0))) (d_r d_int) (fun _ _ => rfl))) (d_r (d_ix ix_D (d_r (d_var (pv 1))) (d_r d_int) (fun _ _ => rfl))))) (d_r (d_bin op_mulD (d_r (d_ix ix_D (d_r (d_var (pv 1))) (d_r d_int) (fun _ _ => rfl))) (d_r (d_ix ix_D (d_r (d_var (pv 0))) (d_r d_int) (fun _ _ => rfl)))))) (a_cons (d_bin op_mulD (d_r (d_ix ix_D (d_r (d_var (pv 0))) (d_r d_int) (fun _ _ => rfl))) (d_r (d_ix ix_D (d_r (d_var (pv 1))) (d_r d_int) (fun _ _ => rfl)))) a_nil)))))

theorem sc_minus : FnScope ["one", "other"] ["one", "other"] (defScope (top 22)) := ⟨rfl, rfl, rfl, by decide +kernel, rfl, by decide +kernel, by decide +kernel⟩
theorem cal_minus {P : Program} {w : World} {K : PySem.W.Frag} {mg : Str → Option Value} {base : Heap} (g : Glob K mg) (F : ∃ f fd, FnP K "minus" (top 22) f fd ∧ mg "minus" = some (.ref f)) (c_plus : CalP P w K mg base "plus" 3 2 ["one", "other"] F_plus) : CalP P w K mg base "minus" 4 2 ["one", "other"] F_minus := by
  obtain ⟨f, fd, F, hm⟩ := F
  obtain ⟨f_plus, fd_plus, ok_plus, mg_plus, kp_plus, bd_plus⟩ := c_plus
  refine ⟨f, fd, ?_, hm, F.kp, F.bindsN fun _ _ _ _ _ _ us hl => match us, hl with | [_, _], _ => rfl⟩
  have sc := sc_minus
  refine fn_P (toFun F) sc rfl fun cdv A outer s H E hr => ?_
  have hu := units64 hr
  have hu5 := units65 hr
  have hu1 := units1 hr
  exact (s_one (s_ret (d_call ok_plus (hr.mono (by decide : 3 ≤ 3)) rfl mg_plus kp_plus bd_plus (a_cons (d_var (pv 0)) (a_cons (d_tup (a_cons (d_un un_negD (d_r (d_ix ix_D (d_r (d_var (pv 1))) (d_r d_int) (fun _ _ => rfl)))) (a_cons (d_ix ix_D (d_r (d_var (pv 1))) (d_r d_int) (fun _ _ => rfl)) a_nil))) a_nil)))))

theorem sc_product : FnScope ["one", "other"] ["one", "other"] (defScope (top 23)) := ⟨rfl, rfl, rfl, by decide +kernel, rfl, by decide +kernel, by decide +kernel⟩
theorem cal_product {P : Program} {w : World} {K : PySem.W.Frag} {mg : Str → Option Value} {base : Heap} (g : Glob K mg) (F : ∃ f fd, FnP K "product" (top 23) f fd ∧ mg "product" = some (.ref f)) (c_fraction : CalP P w K mg base "fraction" 2 2 ["top", "bottom"] F_fraction) : CalP P w K mg base "product" 3 2 ["one", "other"] F_product := by
  obtain ⟨f, fd, F, hm⟩ := F
  obtain ⟨f_fraction, fd_fraction, ok_fraction, mg_fraction, kp_fraction, bd_fraction⟩ := c_fraction
  refine ⟨f, fd, ?_, hm, F.kp, F.bindsN fun _ _ _ _ _ _ us hl => match us, hl with | [_, _], _ => rfl⟩
  have sc := sc_product
  refine fn_P (toFun F) sc rfl fun cdv A outer s H E hr => ?_
  have hu := units64 hr
  have hu5 := units65 hr
  have hu1 := units1 hr
  exact (s_one (s_ret (d_call ok_fraction (hr.mono (by decide : 2 ≤ 2)) rfl mg_fraction kp_fraction bd_fraction (a_cons (d_bin op_mulD (d_r (d_ix ix_D (d_r (d_var (pv 0))) (d_r d_int) (fun _ _ => rfl))) (d_r (d_ix ix_D (d_r (d_var (pv 1))) (d_r d_int) (fun _ _ => rfl)))) (a_cons (d_bin op_mulD (d_r (d_ix ix_D (d_r (d_var (pv 0))) (d_r d_int) (fun _ _ => rfl))) (d_r (d_ix ix_D (d_r (d_var (pv 1))) (d_r d_int) (fun _ _ => rfl)))) a_nil)))))

theorem sc_quotient : FnScope ["one", "other"] ["one", "other"] (defScope (top 24)) := ⟨rfl, rfl, rfl, by decide +kernel, rfl, by decide +kernel, by decide +kernel⟩
theorem cal_quotient {P : Program} {w : World} {K : PySem.W.Frag} {mg : Str → Option Value} {base : Heap} (g : Glob K mg) (F : ∃ f fd, FnP K "quotient" (top 24) f fd ∧ mg "quotient" = some (.ref f)) (c_fraction : CalP P w K mg base "fraction" 2 2 ["top", "bottom"] F_fraction) : CalP P w K mg base "quotient" 3 2 ["one", "other"] F_quotient := by
  obtain ⟨f, fd, F, hm⟩ := F
  obtain ⟨f_fraction, fd_fraction, ok_fraction, mg_fraction, kp_fraction, bd_fraction⟩ := c_fraction
  refine ⟨f, fd, ?_, hm, F.kp, F.bindsN fun _ _ _ _ _ _ us hl => match us, hl with | [_, _], _ => rfl⟩
  have sc := sc_quotient
  refine fn_P (toFun F) sc rfl fun cdv A outer s H E hr => ?_
  have hu := units64 hr
  have hu5 := units65 hr
  have hu1 := units1 hr
  exact (s_one (s_ret (d_call ok_fraction (hr.mono (by decide : 2 ≤ 2)) rfl mg_fraction kp_fraction bd_fraction (a_cons (d_bin op_mulD (d_r (d_ix ix_D (d_r (d_var (pv 0))) (d_r d_int) (fun _ _ => rfl))) (d_r (d_ix ix_D (d_r (d_var (pv 1))) (d_r d_int) (fun _ _ => rfl)))) (a_cons (d_bin op_mulD (d_r (d_ix ix_D (d_r (d_var (pv 0))) (d_r d_int) (fun _ _ => rfl))) (d_r (d_ix ix_D (d_r (d_var (pv 1))) (d_r d_int) (fun _ _ => rfl)))) a_nil)))))

theorem sc_is_less : FnScope ["one", "other"] ["one", "other"] (defScope (top 25)) := ⟨rfl, rfl, rfl, by decide +kernel, rfl, by decide +kernel, by decide +kernel⟩
theorem cal_is_less {P : Program} {w : World} {K : PySem.W.Frag} {mg : Str → Option Value} {base : Heap} (g : Glob K mg) (F : ∃ f fd, FnP K "is_less" (top 25) f fd ∧ mg "is_less" = some (.ref f))  : CalP P w K mg base "is_less" 1 2 ["one", "other"] F_is_less := by
  obtain ⟨f, fd, F, hm⟩ := F
  refine ⟨f, fd, ?_, hm, F.kp, F.bindsN fun _ _ _ _ _ _ us hl => match us, hl with | [_, _], _ => rfl⟩
  have sc := sc_is_less
  refine fn_P (toFun F) sc rfl fun cdv A outer s H E hr => ?_
  have hu := units64 hr
  have hu5 := units65 hr
  have hu1 := units1 hr
  exact (s_one (s_ret (d_cmp op_ltD (d_r (d_bin op_mulD (d_r (d_ix ix_D (d_r (d_var (pv 0))) (d_r d_int) (fun _ _ => rfl))) (d_r (d_ix ix_D (d_r (d_var (pv 1))) (d_r d_int) (fun _ _ => rfl))))) (d_r (d_bin op_mulD (d_r (d_ix ix_D (d_r (d_var (pv 1))) (d_r d_int) (fun _ _ => rfl))) (d_r (d_ix ix_D (d_r (d_var (pv 0))) (d_r d_int) (fun _ _ => rfl))))) (nomark _))))

theorem sc_lesser : FnScope ["one", "other"] ["one", "other"] (defScope (top 26)) := ⟨rfl, rfl, rfl, by decide +kernel, rfl, by decide +kernel, by decide +kernel⟩
theorem cal_lesser {P : Program} {w : World} {K : PySem.W.Frag} {mg : Str → Option Value} {base : Heap} (g : Glob K mg) (F : ∃ f fd, FnP K "lesser" (top 26) f fd ∧ mg "lesser" = some (.ref f)) (c_is_less : CalP P w K mg base "is_less" 1 2 ["one", "other"] F_is_less) : CalP P w K mg base "lesser" 2 2 ["one", "other"] F_lesser := by
  obtain ⟨f, fd, F, hm⟩ := F
  obtain ⟨f_is_less, fd_is_less, ok_is_less, mg_is_less, kp_is_less, bd_is_less⟩ := c_is_less
  refine ⟨f, fd, ?_, hm, F.kp, F.bindsN fun _ _ _ _ _ _ us hl => match us, hl with | [_, _], _ => rfl⟩
  have sc := sc_lesser
  refine fn_P (toFun F) sc rfl fun cdv A outer s H E hr => ?_
  have hu := units64 hr
  have hu5 := units65 hr
  have hu1 := units1 hr
  exact (s_one (s_ret (d_if (c_val (d_call ok_is_less (hr.mono (by decide : 1 ≤ 1)) rfl mg_is_less kp_is_less bd_is_less (a_cons (d_var (pv 1)) (a_cons (d_var (pv 0)) a_nil)))) (d_var (pv 1)) (d_var (pv 0)))))

theorem sc_sum_of : FnScope ["some", "found", "one"] ["some"] (defScope (top 27)) := ⟨rfl, rfl, rfl, by decide +kernel, rfl, by decide +kernel, by decide +kernel⟩
theorem cal_sum_of {P : Program} {w : World} {K : PySem.W.Frag} {mg : Str → Option Value} {base : Heap} (g : Glob K mg) (F : ∃ f fd, FnP K "sum_of" (top 27) f fd ∧ mg "sum_of" = some (.ref f)) (gZERO : HasZero K mg) (c_plus : CalP P w K mg base "plus" 3 2 ["one", "other"] F_plus) : CalP P w K mg base "sum_of" 4 1 ["some"] F_sum_of := by
  obtain ⟨f, fd, F, hm⟩ := F
  obtain ⟨f_plus, fd_plus, ok_plus, mg_plus, kp_plus, bd_plus⟩ := c_plus
  refine ⟨f, fd, ?_, hm, F.kp, F.bindsN fun _ _ _ _ _ _ us hl => match us, hl with | [_], _ => rfl⟩
  have sc := sc_sum_of
  refine fn_P (toFun F) sc rfl fun cdv A outer s H E hr => ?_
  have hu := units64 hr
  have hu5 := units65 hr
  have hu1 := units1 hr
  exact (s_cons (s_asg (ps_set (i := 1) sc.nd rfl (Or.inl rfl) (d_gtup (is := [0, 1]) rfl gZERO)))
    (s_cons (s_for PassesOwn.never rfl (i_seq (d_var (pv 0))) (g_name (pg_name (i := 2) sc.nd rfl (Or.inl rfl))) (s_one (s_asg (ps_set (i := 1) sc.nd rfl (Or.inl rfl) (d_call ok_plus (hr.mono (by decide : 3 ≤ 3)) rfl mg_plus kp_plus bd_plus (a_cons (d_var (pv 1)) (a_cons (d_var (pv 2)) a_nil)))))))
    (s_one (s_ret (d_var (pv 1))))))

theorem sc_are_pairs : FnScope ["holders", "value", "most", "least", "pair", "k"] ["holders", "value", "most", "least"] (defScope (top 28)) := ⟨rfl, rfl, rfl, by decide +kernel, rfl, by decide +kernel, by decide +kernel⟩
theorem cal_are_pairs {P : Program} {w : World} {K : PySem.W.Frag} {mg : Str → Option Value} {base : Heap} (g : Glob K mg) (F : ∃ f fd, FnP K "are_pairs" (top 28) f fd ∧ mg "are_pairs" = some (.ref f)) (c_is_between : CalP P w K mg base "is_between" 1 3 ["value", "low", "high"] F_is_between) : CalP P w K mg base "are_pairs" 2 4 ["holders", "value", "most", "least"] F_are_pairs := by
  obtain ⟨f, fd, F, hm⟩ := F
  obtain ⟨f_is_between, fd_is_between, ok_is_between, mg_is_between, kp_is_between, bd_is_between⟩ := c_is_between
  refine ⟨f, fd, ?_, hm, F.kp, F.bindsN fun _ _ _ _ _ _ us hl => match us, hl with | [_, _, _, _], _ => rfl⟩
  have sc := sc_are_pairs
  refine fn_P (toFun F) sc rfl fun cdv A outer s H E hr => ?_
  have hu := units64 hr
  have hu5 := units65 hr
  have hu1 := units1 hr
  exact (s_cons (s_if (PW.pt (c_or (c_not (c_val (d_isi rfl g.isinstance rfl g.tuple_ (by decide +kernel) (d_r (d_var (pv 1)))))) (c_or1 (c_cmp op_ltD (d_r (d_callB cb_len rfl g.len_ (by decide +kernel) (r_cons (d_r (d_var (pv 1))) r_nil))) (d_r (d_var (pv 3))) (nomark _))))) (s_one (s_ret d_bl)) s_nil)
    (s_cons (s_for PassesOwn.never rfl (i_seq (d_var (pv 1))) (g_name (pg_name (i := 4) sc.nd rfl (Or.inl rfl))) (s_cons (s_if (PW.pt (c_or (c_not (c_val (d_isi rfl g.isinstance rfl g.tuple_ (by decide +kernel) (d_r (d_var (pv 4)))))) (c_or (c_cmp (op_neQ hu) (d_r (d_callB cb_len rfl g.len_ (by decide +kernel) (r_cons (d_r (d_var (pv 4))) r_nil))) (d_r d_int) (nomark _)) (c_or1 (c_not (c_val (d_call ok_is_between (hr.mono (by decide : 1 ≤ 1)) rfl mg_is_between kp_is_between bd_is_between (a_cons (d_ix ix_D (d_r (d_var (pv 4))) (d_r d_int) (fun _ _ => rfl)) (a_cons d_int (a_cons (d_bin op_subD (d_r (d_var (pv 0))) (d_r d_int)) a_nil)))))))))) (s_one (s_ret d_bl)) s_nil)
    (s_one (s_if (c_not (c_val (d_call ok_is_between (hr.mono (by decide : 1 ≤ 1)) rfl mg_is_between kp_is_between bd_is_between (a_cons (d_ix ix_D (d_r (d_var (pv 4))) (d_r d_int) (fun _ _ => rfl)) (a_cons d_int (a_cons (d_var (pv 2)) a_nil)))))) (s_one (s_ret d_bl)) s_nil))))
    (s_one (s_ret (d_callB (cb_all rfl) rfl g.all_ (by decide +kernel) (r_cons (d_r (d_frz (l_comp (own := [("k", 5)]) rfl sc.nd (i_rng rfl g.range_ (a_cons (d_bin op_subD (d_r (d_callB cb_len rfl g.len_ (by decide +kernel) (r_cons (d_r (d_var (pv 1))) r_nil))) (d_r d_int)) a_nil)) (blkOk_by (own := [("k", 5)]) (N := ["holders", "value", "most", "least", "pair", "k"]) (sc := defScope (top 28)) (by decide +kernel)) (fun _ _ _ _ _ => (g_name (pg_name (i := 5) sc.nd rfl (Or.inl rfl)))) (fun _ _ _ _ _ => t_yes) (fun _ _ _ _ _ => (d_cmp op_ltD (d_r (d_ix ix_D (d_r (d_ix ix_D (d_r (d_var (pv 1))) (d_r (d_var (pv 5))) (fun _ _ => rfl))) (d_r d_int) (fun _ _ => rfl))) (d_r (d_ix ix_D (d_r (d_ix ix_D (d_r (d_var (pv 1))) (d_r (d_bin op_addD (d_r (d_var (pv 5))) (d_r d_int))) (fun _ _ => rfl))) (d_r d_int) (fun _ _ => rfl))) (nomark _))) (by decide)))) r_nil))))))

theorem sc_is_rung : FnScope ["holders", "value", "some", "holder", "weight", "cap"] ["holders", "value"] (defScope (top 29)) := ⟨rfl, rfl, rfl, by decide +kernel, rfl, by decide +kernel, by decide +kernel⟩
theorem cal_is_rung {P : Program} {w : World} {K : PySem.W.Frag} {mg : Str → Option Value} {base : Heap} (g : Glob K mg) (F : ∃ f fd, FnP K "is_rung" (top 29) f fd ∧ mg "is_rung" = some (.ref f)) (c_are_pairs : CalP P w K mg base "are_pairs" 2 4 ["holders", "value", "most", "least"] F_are_pairs) : CalP P w K mg base "is_rung" 3 2 ["holders", "value"] F_is_rung := by
  obtain ⟨f, fd, F, hm⟩ := F
  obtain ⟨f_are_pairs, fd_are_pairs, ok_are_pairs, mg_are_pairs, kp_are_pairs, bd_are_pairs⟩ := c_are_pairs
  refine ⟨f, fd, ?_, hm, F.kp, F.bindsN fun _ _ _ _ _ _ us hl => match us, hl with | [_, _], _ => rfl⟩
  have sc := sc_is_rung
  refine fn_P (toFun F) sc rfl fun cdv A outer s H E hr => ?_
  have hu := units64 hr
  have hu5 := units65 hr
  have hu1 := units1 hr
  exact (s_cons (s_if (PW.pt (c_or (c_not (c_val (d_isi rfl g.isinstance rfl g.tuple_ (by decide +kernel) (d_r (d_var (pv 1)))))) (c_or (c_not (c_chain op_leD op_leD (d_r d_int) (d_r (d_callB cb_len rfl g.len_ (by decide +kernel) (r_cons (d_r (d_var (pv 1))) r_nil))) (d_r d_int))) (c_or1 (c_not (c_val (d_isi rfl g.isinstance rfl g.str_ (by decide +kernel) (d_r (d_ix ix_D (d_r (d_var (pv 1))) (d_r d_int) (fun _ _ => rfl)))))))))) (s_one (s_ret d_bl)) s_nil)
    (s_cons (s_if (c_cmp (op_eqQ hu) (d_r (d_ix ix_D (d_r (d_var (pv 1))) (d_r d_int) (fun _ _ => rfl))) (d_r d_str) (nomark _)) (s_one (s_ret (d_and (d_cmp (op_eqQ hu) (d_r (d_callB cb_len rfl g.len_ (by decide +kernel) (r_cons (d_r (d_var (pv 1))) r_nil))) (d_r d_int) (nomark _)) (d_one (d_call ok_are_pairs (hr.mono (by decide : 2 ≤ 2)) rfl mg_are_pairs kp_are_pairs bd_are_pairs (a_cons (d_var (pv 0)) (a_cons (d_ix ix_D (d_r (d_var (pv 1))) (d_r d_int) (fun _ _ => rfl)) (a_cons d_int (a_cons d_int a_nil))))))))) s_nil)
    (s_cons (s_if (PW.pt (c_or (c_cmp (op_neQ hu) (d_r (d_ix ix_D (d_r (d_var (pv 1))) (d_r d_int) (fun _ _ => rfl))) (d_r d_str) (nomark _)) (c_or1 (c_cmp (op_neQ hu) (d_r (d_callB cb_len rfl g.len_ (by decide +kernel) (r_cons (d_r (d_var (pv 1))) r_nil))) (d_r d_int) (nomark _))))) (s_one (s_ret d_bl)) s_nil)
    (s_cons (s_if (PW.pt (c_or (c_not (c_val (d_call ok_are_pairs (hr.mono (by decide : 2 ≤ 2)) rfl mg_are_pairs kp_are_pairs bd_are_pairs (a_cons (d_var (pv 0)) (a_cons (d_ix ix_D (d_r (d_var (pv 1))) (d_r d_int) (fun _ _ => rfl)) (a_cons d_int (a_cons d_int a_nil))))))) (c_or1 (c_not (c_val (d_call ok_are_pairs (hr.mono (by decide : 2 ≤ 2)) rfl mg_are_pairs kp_are_pairs bd_are_pairs (a_cons (d_var (pv 0)) (a_cons (d_ix ix_D (d_r (d_var (pv 1))) (d_r d_int) (fun _ _ => rfl)) (a_cons d_int (a_cons d_int a_nil)))))))))) (s_one (s_ret d_bl)) s_nil)
    (s_cons (s_asg (ps_set (i := 2) sc.nd rfl (Or.inr rfl) (d_frz (l_comp (own := [("holder", 3), ("weight", 4)]) rfl sc.nd (i_seq (d_ix ix_D (d_r (d_var (pv 1))) (d_r d_int) (fun _ _ => rfl))) (blkOk_by (own := [("holder", 3), ("weight", 4)]) (N := ["holders", "value", "some", "holder", "weight", "cap"]) (sc := defScope (top 29)) (by decide +kernel)) (fun _ _ _ _ _ => (g_tup rfl (gs_cons (g_name (pg_name (i := 3) sc.nd rfl (Or.inl rfl))) (gs_cons (g_name (pg_name (i := 4) sc.nd rfl (Or.inl rfl))) gs_nil)))) (fun _ _ _ _ _ => t_yes) (fun _ _ _ _ _ => (d_var (pv 3))) (by decide)))))
    (s_one (s_ret (d_callB (cb_all rfl) rfl g.all_ (by decide +kernel) (r_cons (d_r (d_frz (l_comp (own := [("holder", 3), ("cap", 5)]) rfl sc.nd (i_seq (d_ix ix_D (d_r (d_var (pv 1))) (d_r d_int) (fun _ _ => rfl))) (blkOk_by (own := [("holder", 3), ("cap", 5)]) (N := ["holders", "value", "some", "holder", "weight", "cap"]) (sc := defScope (top 29)) (by decide +kernel)) (fun _ _ _ _ _ => (g_tup rfl (gs_cons (g_name (pg_name (i := 3) sc.nd rfl (Or.inl rfl))) (gs_cons (g_name (pg_name (i := 5) sc.nd rfl (Or.inl rfl))) gs_nil)))) (fun _ _ _ _ _ => t_yes) (fun _ _ _ _ _ => (d_cmp (op_inQ hu5) (d_r (d_var (pv 3))) (d_r (d_var (pv 2))) (by rfl))) (by decide)))) r_nil)))))))))

theorem sc_is_endless : FnScope ["rung"] ["rung"] (defScope (top 30)) := ⟨rfl, rfl, rfl, by decide +kernel, rfl, by decide +kernel, by decide +kernel⟩
theorem cal_is_endless {P : Program} {w : World} {K : PySem.W.Frag} {mg : Str → Option Value} {base : Heap} (g : Glob K mg) (F : ∃ f fd, FnP K "is_endless" (top 30) f fd ∧ mg "is_endless" = some (.ref f))  : CalP P w K mg base "is_endless" 1 1 ["rung"] F_is_endless := by
  obtain ⟨f, fd, F, hm⟩ := F
  refine ⟨f, fd, ?_, hm, F.kp, F.bindsN fun _ _ _ _ _ _ us hl => match us, hl with | [_], _ => rfl⟩
  have sc := sc_is_endless
  refine fn_P (toFun F) sc rfl fun cdv A outer s H E hr => ?_
  have hu := units64 hr
  have hu5 := units65 hr
  have hu1 := units1 hr
  exact (s_one (s_ret (d_and (d_cmp (op_eqQ hu) (d_r (d_ix ix_D (d_r (d_var (pv 0))) (d_r d_int) (fun _ _ => rfl))) (d_r d_str) (nomark _)) (d_one (d_cmp op_ltD (d_r (d_callB cb_len rfl g.len_ (by decide +kernel) (r_cons (d_r (d_ix ix_D (d_r (d_var (pv 0))) (d_r d_int) (fun _ _ => rfl))) r_nil))) (d_r (d_callB cb_len rfl g.len_ (by decide +kernel) (r_cons (d_r (d_ix ix_D (d_r (d_var (pv 0))) (d_r d_int) (fun _ _ => rfl))) r_nil))) (nomark _))))))

theorem sc_is_ladder : FnScope ["value", "holders", "rungs", "rung"] ["value"] (defScope (top 31)) := ⟨rfl, rfl, rfl, by decide +kernel, rfl, by decide +kernel, by decide +kernel⟩
theorem cal_is_ladder {P : Program} {w : World} {K : PySem.W.Frag} {mg : Str → Option Value} {base : Heap} (g : Glob K mg) (F : ∃ f fd, FnP K "is_ladder" (top 31) f fd ∧ mg "is_ladder" = some (.ref f)) (c_is_endless : CalP P w K mg base "is_endless" 1 1 ["rung"] F_is_endless) (c_is_between : CalP P w K mg base "is_between" 1 3 ["value", "low", "high"] F_is_between) (c_is_rung : CalP P w K mg base "is_rung" 3 2 ["holders", "value"] F_is_rung) : CalP P w K mg base "is_ladder" 4 1 ["value"] F_is_ladder := by
  obtain ⟨f, fd, F, hm⟩ := F
  obtain ⟨f_is_endless, fd_is_endless, ok_is_endless, mg_is_endless, kp_is_endless, bd_is_endless⟩ := c_is_endless
  obtain ⟨f_is_between, fd_is_between, ok_is_between, mg_is_between, kp_is_between, bd_is_between⟩ := c_is_between
  obtain ⟨f_is_rung, fd_is_rung, ok_is_rung, mg_is_rung, kp_is_rung, bd_is_rung⟩ := c_is_rung
  refine ⟨f, fd, ?_, hm, F.kp, F.bindsN fun _ _ _ _ _ _ us hl => match us, hl with | [_], _ => rfl⟩
  have sc := sc_is_ladder
  refine fn_P (toFun F) sc rfl fun cdv A outer s H E hr => ?_
  have hu := units64 hr
  have hu5 := units65 hr
  have hu1 := units1 hr
  exact (s_cons (s_if (PW.pt (c_or (c_not (c_val (d_isi rfl g.isinstance rfl g.tuple_ (by decide +kernel) (d_r (d_var (pv 0)))))) (c_or (c_cmp (op_neQ hu) (d_r (d_callB cb_len rfl g.len_ (by decide +kernel) (r_cons (d_r (d_var (pv 0))) r_nil))) (d_r d_int) (nomark _)) (c_or1 (c_not (c_val (d_call ok_is_between (hr.mono (by decide : 1 ≤ 3)) rfl mg_is_between kp_is_between bd_is_between (a_cons (d_ix ix_D (d_r (d_var (pv 0))) (d_r d_int) (fun _ _ => rfl)) (a_cons d_int (a_cons d_int a_nil)))))))))) (s_one (s_ret d_bl)) s_nil)
    (s_cons (s_asgG (ps_asg (d_var (pv 0)) (g_tup rfl (gs_cons (g_name (pg_name (i := 1) sc.nd rfl (Or.inr rfl))) (gs_cons (g_name (pg_name (i := 2) sc.nd rfl (Or.inl rfl))) gs_nil)))))
    (s_cons (s_if (PW.pt (c_or (c_not (c_val (d_isi rfl g.isinstance rfl g.tuple_ (by decide +kernel) (d_r (d_var (pv 2)))))) (c_or1 (c_not (c_chain op_leD op_leD (d_r d_int) (d_r (d_callB cb_len rfl g.len_ (by decide +kernel) (r_cons (d_r (d_var (pv 2))) r_nil))) (d_r d_int)))))) (s_one (s_ret d_bl)) s_nil)
    (s_one (s_ret (d_and (d_callB (cb_all rfl) rfl g.all_ (by decide +kernel) (r_cons (d_r (d_frz (l_comp (own := [("rung", 3)]) rfl sc.nd (i_seq (d_var (pv 2))) (blkOk_by (own := [("rung", 3)]) (N := ["value", "holders", "rungs", "rung"]) (sc := defScope (top 31)) (by decide +kernel)) (fun _ _ _ _ _ => (g_name (pg_name (i := 3) sc.nd rfl (Or.inl rfl)))) (fun _ _ _ _ _ => t_yes) (fun _ _ _ _ _ => (d_call ok_is_rung (hr.mono (by decide : 3 ≤ 3)) rfl mg_is_rung kp_is_rung bd_is_rung (a_cons (d_var (pv 1)) (a_cons (d_var (pv 3)) a_nil)))) (by decide)))) r_nil)) (d_one (d_call ok_is_endless (hr.mono (by decide : 1 ≤ 3)) rfl mg_is_endless kp_is_endless bd_is_endless (a_cons (d_ix ix_D (d_r (d_var (pv 2))) (d_r (d_un un_negD (d_r d_int))) (fun _ _ => rfl)) a_nil)))))))))

theorem sc_check_ladder : FnScope ["value"] ["value"] (defScope (top 32)) := ⟨rfl, rfl, rfl, by decide +kernel, rfl, by decide +kernel, by decide +kernel⟩
theorem cal_check_ladder {P : Program} {w : World} {K : PySem.W.Frag} {mg : Str → Option Value} {base : Heap} (g : Glob K mg) (F : ∃ f fd, FnP K "check_ladder" (top 32) f fd ∧ mg "check_ladder" = some (.ref f)) (c_is_ladder : CalP P w K mg base "is_ladder" 4 1 ["value"] F_is_ladder) : CalP P w K mg base "check_ladder" 5 1 ["value"] F_check_ladder := by
  obtain ⟨f, fd, F, hm⟩ := F
  obtain ⟨f_is_ladder, fd_is_ladder, ok_is_ladder, mg_is_ladder, kp_is_ladder, bd_is_ladder⟩ := c_is_ladder
  refine ⟨f, fd, ?_, hm, F.kp, F.bindsN fun _ _ _ _ _ _ us hl => match us, hl with | [_], _ => rfl⟩
  have sc := sc_check_ladder
  refine fn_P (toFun F) sc rfl fun cdv A outer s H E hr => ?_
  have hu := units64 hr
  have hu5 := units65 hr
  have hu1 := units1 hr
  exact (s_one (s_if (c_not (c_val (d_call ok_is_ladder (hr.mono (by decide : 4 ≤ 4)) rfl mg_is_ladder kp_is_ladder bd_is_ladder (a_cons (d_var (pv 0)) a_nil)))) (s_one s_never) s_nil))

theorem sc_is_amount : FnScope ["value"] ["value"] (defScope (top 33)) := ⟨rfl, rfl, rfl, by decide +kernel, rfl, by decide +kernel, by decide +kernel⟩
theorem cal_is_amount {P : Program} {w : World} {K : PySem.W.Frag} {mg : Str → Option Value} {base : Heap} (g : Glob K mg) (F : ∃ f fd, FnP K "is_amount" (top 33) f fd ∧ mg "is_amount" = some (.ref f)) (gMOST : HasMost mg) (c_is_between : CalP P w K mg base "is_between" 1 3 ["value", "low", "high"] F_is_between) (c_divisor : CalP P w K mg base "divisor" 1 2 ["one", "other"] F_divisor) : CalP P w K mg base "is_amount" 2 1 ["value"] F_is_amount := by
  obtain ⟨f, fd, F, hm⟩ := F
  obtain ⟨f_is_between, fd_is_between, ok_is_between, mg_is_between, kp_is_between, bd_is_between⟩ := c_is_between
  obtain ⟨f_divisor, fd_divisor, ok_divisor, mg_divisor, kp_divisor, bd_divisor⟩ := c_divisor
  refine ⟨f, fd, ?_, hm, F.kp, F.bindsN fun _ _ _ _ _ _ us hl => match us, hl with | [_], _ => rfl⟩
  have sc := sc_is_amount
  refine fn_P (toFun F) sc rfl fun cdv A outer s H E hr => ?_
  have hu := units64 hr
  have hu5 := units65 hr
  have hu1 := units1 hr
  exact (s_cons (s_if (PW.pt (c_or (c_not (c_val (d_isi rfl g.isinstance rfl g.tuple_ (by decide +kernel) (d_r (d_var (pv 0)))))) (c_or (c_cmp (op_neQ hu) (d_r (d_callB cb_len rfl g.len_ (by decide +kernel) (r_cons (d_r (d_var (pv 0))) r_nil))) (d_r d_int) (nomark _)) (c_or1 (c_not (c_val (d_call ok_is_between (hr.mono (by decide : 1 ≤ 1)) rfl mg_is_between kp_is_between bd_is_between (a_cons (d_ix ix_D (d_r (d_var (pv 0))) (d_r d_int) (fun _ _ => rfl)) (a_cons d_int (a_cons d_int a_nil)))))))))) (s_one (s_ret d_bl)) s_nil)
    (s_one (s_ret (d_and (d_call ok_is_between (hr.mono (by decide : 1 ≤ 1)) rfl mg_is_between kp_is_between bd_is_between (a_cons (d_ix ix_D (d_r (d_var (pv 0))) (d_r d_int) (fun _ _ => rfl)) (a_cons d_int (a_cons (d_bin op_mulD (d_r (d_gint rfl gMOST)) (d_r (d_ix ix_D (d_r (d_var (pv 0))) (d_r d_int) (fun _ _ => rfl)))) a_nil)))) (d_one (d_cmp (op_eqQ hu) (d_r (d_call ok_divisor (hr.mono (by decide : 1 ≤ 1)) rfl mg_divisor kp_divisor bd_divisor (a_cons (d_ix ix_D (d_r (d_var (pv 0))) (d_r d_int) (fun _ _ => rfl)) (a_cons (d_ix ix_D (d_r (d_var (pv 0))) (d_r d_int) (fun _ _ => rfl)) a_nil)))) (d_r d_int) (nomark _)))))))

theorem sc_check_amount : FnScope ["value"] ["value"] (defScope (top 34)) := ⟨rfl, rfl, rfl, by decide +kernel, rfl, by decide +kernel, by decide +kernel⟩
theorem cal_check_amount {P : Program} {w : World} {K : PySem.W.Frag} {mg : Str → Option Value} {base : Heap} (g : Glob K mg) (F : ∃ f fd, FnP K "check_amount" (top 34) f fd ∧ mg "check_amount" = some (.ref f)) (c_is_amount : CalP P w K mg base "is_amount" 2 1 ["value"] F_is_amount) : CalP P w K mg base "check_amount" 3 1 ["value"] F_check_amount := by
  obtain ⟨f, fd, F, hm⟩ := F
  obtain ⟨f_is_amount, fd_is_amount, ok_is_amount, mg_is_amount, kp_is_amount, bd_is_amount⟩ := c_is_amount
  refine ⟨f, fd, ?_, hm, F.kp, F.bindsN fun _ _ _ _ _ _ us hl => match us, hl with | [_], _ => rfl⟩
  have sc := sc_check_amount
  refine fn_P (toFun F) sc rfl fun cdv A outer s H E hr => ?_
  have hu := units64 hr
  have hu5 := units65 hr
  have hu1 := units1 hr
  exact (s_one (s_if (c_not (c_val (d_call ok_is_amount (hr.mono (by decide : 2 ≤ 2)) rfl mg_is_amount kp_is_amount bd_is_amount (a_cons (d_var (pv 0)) a_nil)))) (s_one s_never) s_nil))

theorem sc_fixed_pieces : FnScope ["holders", "sums", "whole", "rates", "holder", "one"] ["holders", "sums"] (defScope (top 36)) := ⟨rfl, rfl, rfl, by decide +kernel, rfl, by decide +kernel, by decide +kernel⟩
theorem cal_fixed_pieces {P : Program} {w : World} {K : PySem.W.Frag} {mg : Str → Option Value} {base : Heap} (g : Glob K mg) (F : ∃ f fd, FnP K "fixed_pieces" (top 36) f fd ∧ mg "fixed_pieces" = some (.ref f)) (gZERO : HasZero K mg) (c_fraction : CalP P w K mg base "fraction" 2 2 ["top", "bottom"] F_fraction) : CalP P w K mg base "fixed_pieces" 3 2 ["holders", "sums"] F_fixed_pieces := by
  obtain ⟨f, fd, F, hm⟩ := F
  obtain ⟨f_fraction, fd_fraction, ok_fraction, mg_fraction, kp_fraction, bd_fraction⟩ := c_fraction
  refine ⟨f, fd, ?_, hm, F.kp, F.bindsN fun _ _ _ _ _ _ us hl => match us, hl with | [_, _], _ => rfl⟩
  have sc := sc_fixed_pieces
  refine fn_P (toFun F) sc rfl fun cdv A outer s H E hr => ?_
  have hu := units64 hr
  have hu5 := units65 hr
  have hu1 := units1 hr
  exact (s_cons (s_asg (ps_set (i := 2) sc.nd rfl (Or.inl rfl) (d_callB (cb_sum rfl) rfl g.sum_ (by decide +kernel) (r_cons (d_r (d_frz (l_comp (own := [("holder", 4), ("one", 5)]) rfl sc.nd (i_seq (d_var (pv 1))) (blkOk_by (own := [("holder", 4), ("one", 5)]) (N := ["holders", "sums", "whole", "rates", "holder", "one"]) (sc := defScope (top 36)) (by decide +kernel)) (fun _ _ _ _ _ => (g_tup rfl (gs_cons (g_name (pg_name (i := 4) sc.nd rfl (Or.inl rfl))) (gs_cons (g_name (pg_name (i := 5) sc.nd rfl (Or.inl rfl))) gs_nil)))) (fun _ _ _ _ _ => t_yes) (fun _ _ _ _ _ => (d_var (pv 5))) (by decide)))) r_nil))))
    (s_cons (s_own (ps_set (i := 3) sc.nd rfl (Or.inl rfl) (l_bin op_mulL (d_r (d_frz (l_lst (a_cons (d_gtup (is := [0, 1]) rfl gZERO) a_nil)))) (d_r (d_var (pv 0))))))
    (s_cons (s_for PassesOwn.never rfl (i_seq (d_var (pv 1))) (g_tup rfl (gs_cons (g_name (pg_name (i := 4) sc.nd rfl (Or.inl rfl))) (gs_cons (g_name (pg_name (i := 5) sc.nd rfl (Or.inl rfl))) gs_nil))) (s_one (s_set (ps_asg (d_call ok_fraction (hr.mono (by decide : 2 ≤ 2)) rfl mg_fraction kp_fraction bd_fraction (a_cons (d_var (pv 5)) (a_cons (d_var (pv 2)) a_nil))) (pg_sub (pv 3) (d_var (pv 4)) set_list)))))
    (s_one (s_ret (d_frz (l_lst (a_cons (d_tup (a_cons (d_tup (a_cons (d_var (pv 2)) (a_cons d_int a_nil))) (a_cons (d_callTy ct_tuple rfl g.tuple_ (by decide +kernel) (r_cons (d_bor (pv 3)) r_nil)) a_nil))) a_nil))))))))

theorem sc_share_pieces : FnScope ["holders", "weights", "caps", "left", "active", "found", "whole", "rates", "length", "holder", "weight", "time", "cap", "pair"] ["holders", "weights", "caps"] (defScope (top 37)) := ⟨rfl, rfl, rfl, by decide +kernel, rfl, by decide +kernel, by decide +kernel⟩
theorem cal_share_pieces {P : Program} {w : World} {K : PySem.W.Frag} {mg : Str → Option Value} {base : Heap} (g : Glob K mg) (F : ∃ f fd, FnP K "share_pieces" (top 37) f fd ∧ mg "share_pieces" = some (.ref f)) (gZERO : HasZero K mg) (c_fraction : CalP P w K mg base "fraction" 2 2 ["top", "bottom"] F_fraction) (c_quotient : CalP P w K mg base "quotient" 3 2 ["one", "other"] F_quotient) (c_lesser : CalP P w K mg base "lesser" 2 2 ["one", "other"] F_lesser) (c_minus : CalP P w K mg base "minus" 4 2 ["one", "other"] F_minus) (c_product : CalP P w K mg base "product" 3 2 ["one", "other"] F_product) : CalP P w K mg base "share_pieces" 5 3 ["holders", "weights", "caps"] F_share_pieces := by
  obtain ⟨f, fd, F, hm⟩ := F
  obtain ⟨f_fraction, fd_fraction, ok_fraction, mg_fraction, kp_fraction, bd_fraction⟩ := c_fraction
  obtain ⟨f_quotient, fd_quotient, ok_quotient, mg_quotient, kp_quotient, bd_quotient⟩ := c_quotient
  obtain ⟨f_lesser, fd_lesser, ok_lesser, mg_lesser, kp_lesser, bd_lesser⟩ := c_lesser
  obtain ⟨f_minus, fd_minus, ok_minus, mg_minus, kp_minus, bd_minus⟩ := c_minus
  obtain ⟨f_product, fd_product, ok_product, mg_product, kp_product, bd_product⟩ := c_product
  refine ⟨f, fd, ?_, hm, F.kp, F.bindsN fun _ _ _ _ _ _ us hl => match us, hl with | [_, _, _], _ => rfl⟩
  have sc := sc_share_pieces
  refine fn_P (toFun F) sc rfl fun cdv A outer s H E hr => ?_
  have hu := units64 hr
  have hu5 := units65 hr
  have hu1 := units1 hr
  exact (s_cons (s_dk (ps_set (i := 3) sc.nd rfl (Or.inr rfl) (k_dict rfl rfl g.dict_ (by decide +kernel) (d_frz (l_comp (own := [("holder", 9), ("cap", 12)]) rfl sc.nd (i_seq (d_var (pv 2))) (blkOk_by (own := [("holder", 9), ("cap", 12)]) (N := ["holders", "weights", "caps", "left", "active", "found", "whole", "rates", "length", "holder", "weight", "time", "cap", "pair"]) (sc := defScope (top 37)) (by decide +kernel)) (fun _ _ _ _ _ => (g_tup rfl (gs_cons (g_name (pg_name (i := 9) sc.nd rfl (Or.inl rfl))) (gs_cons (g_name (pg_name (i := 12) sc.nd rfl (Or.inl rfl))) gs_nil)))) (fun _ _ _ _ _ => t_yes) (fun _ _ _ _ _ => (d_tup (a_cons (d_var (pv 9)) (a_cons (d_tup (a_cons (d_var (pv 12)) (a_cons d_int a_nil))) a_nil)))) (by decide))))))
    (s_cons (s_par2 (ps_par (i := 4) (j := 5) rfl sc.nd rfl rfl (by decide) rfl rfl (m_d (d_frz (l_callTy ct_list rfl g.list_ (by decide +kernel) (r_cons (d_r (d_var (pv 1))) r_nil))) (m_l (l_lst a_nil) m_nil)) rfl))
    (s_cons (s_while PassesOwn.never (c_cmp (op_neQ hu) (d_r (d_var (pv 4))) (d_r (d_frz (l_lst a_nil))) (nomark _)) (s_cons (s_asg (ps_set (i := 6) sc.nd rfl (Or.inl rfl) (d_callB (cb_sum rfl) rfl g.sum_ (by decide +kernel) (r_cons (d_r (d_frz (l_comp (own := [("holder", 9), ("weight", 10)]) rfl sc.nd (i_seq (d_var (pv 4))) (blkOk_by (own := [("holder", 9), ("weight", 10)]) (N := ["holders", "weights", "caps", "left", "active", "found", "whole", "rates", "length", "holder", "weight", "time", "cap", "pair"]) (sc := defScope (top 37)) (by decide +kernel)) (fun _ _ _ _ _ => (g_tup rfl (gs_cons (g_name (pg_name (i := 9) sc.nd rfl (Or.inl rfl))) (gs_cons (g_name (pg_name (i := 10) sc.nd rfl (Or.inl rfl))) gs_nil)))) (fun _ _ _ _ _ => t_yes) (fun _ _ _ _ _ => (d_var (pv 10))) (by decide)))) r_nil))))
    (s_cons (s_own (ps_set (i := 7) sc.nd rfl (Or.inr rfl) (l_bin op_mulL (d_r (d_frz (l_lst (a_cons (d_gtup (is := [0, 1]) rfl gZERO) a_nil)))) (d_r (d_var (pv 0))))))
    (s_cons (s_asg (ps_set (i := 8) sc.nd rfl (Or.inr rfl) d_non))
    (s_cons (s_for PassesOwn.never rfl (i_seq (d_var (pv 4))) (g_tup rfl (gs_cons (g_name (pg_name (i := 9) sc.nd rfl (Or.inl rfl))) (gs_cons (g_name (pg_name (i := 10) sc.nd rfl (Or.inl rfl))) gs_nil))) (s_cons (s_set (ps_asg (d_call ok_fraction (hr.mono (by decide : 2 ≤ 4)) rfl mg_fraction kp_fraction bd_fraction (a_cons (d_var (pv 10)) (a_cons (d_var (pv 6)) a_nil))) (pg_sub (pv 7) (d_var (pv 9)) set_list)))
    (s_one (s_if (c_din hu1 (d_var (pv 9)) (pv 3)) (s_cons (s_asg (ps_set (i := 11) sc.nd rfl (Or.inl rfl) (d_call ok_quotient (hr.mono (by decide : 3 ≤ 4)) rfl mg_quotient kp_quotient bd_quotient (a_cons (d_dget hu1 (pv 3) (d_var (pv 9)) (fun _ _ => rfl)) (a_cons (d_ix ix_D (d_bor (pv 7)) (d_r (d_var (pv 9))) (fun _ _ => rfl)) a_nil)))))
    (s_one (s_asg (ps_set (i := 8) sc.nd rfl (Or.inr rfl) (d_if (c_cmp op_isQ (d_r (d_var (pv 8))) (d_r d_non) (nomark _)) (d_var (pv 11)) (d_call ok_lesser (hr.mono (by decide : 2 ≤ 4)) rfl mg_lesser kp_lesser bd_lesser (a_cons (d_var (pv 8)) (a_cons (d_var (pv 11)) a_nil)))))))) s_nil))))
    (s_cons (s_app (ps_expr (pe_bm PySem.F.plainAttrs_list PySem.F.slot_list_append PySem.F.type_list_append mt_append (pv 5) (pa_cons (d_tup (a_cons (d_var (pv 8)) (a_cons (d_callTy ct_tuple rfl g.tuple_ (by decide +kernel) (r_cons (d_bor (pv 7)) r_nil)) a_nil))) pa_nil))))
    (s_cons (s_if (c_cmp op_isQ (d_r (d_var (pv 8))) (d_r d_non) (nomark _)) (s_one (s_frz 5 (s_ret (d_var (pv 5))))) s_nil)
    (s_cons (s_dk (ps_set (i := 3) sc.nd rfl (Or.inr rfl) (k_dict rfl rfl g.dict_ (by decide +kernel) (d_frz (l_lock 3 (l_comp (own := [("holder", 9)]) rfl sc.nd (i_dk (pv 3)) (blkOk_by (own := [("holder", 9)]) (N := ["holders", "weights", "caps", "left", "active", "found", "whole", "rates", "length", "holder", "weight", "time", "cap", "pair"]) (sc := defScope (top 37)) (by decide +kernel)) (fun _ _ _ _ _ => (g_name (pg_name (i := 9) sc.nd rfl (Or.inl rfl)))) (fun _ _ _ _ _ => t_yes) (fun _ _ _ _ _ => (d_tup (a_cons (d_var (pv 9)) (a_cons (d_call ok_minus (hr.mono (by decide : 4 ≤ 4)) rfl mg_minus kp_minus bd_minus (a_cons (d_dget hu1 (pv 3) (d_var (pv 9)) (fun _ _ => rfl)) (a_cons (d_call ok_product (hr.mono (by decide : 3 ≤ 4)) rfl mg_product kp_product bd_product (a_cons (d_var (pv 8)) (a_cons (d_ix ix_D (d_bor (pv 7)) (d_r (d_var (pv 9))) (fun _ _ => rfl)) a_nil))) a_nil))) a_nil)))) (by decide)))))))
    (s_cons (s_asg (as_frz (as_comp (by decide) (ps_setLc (own := [("pair", 13)]) (i := 4) rfl sc.nd rfl rfl (sw_true rfl rfl rfl (by decide +kernel)) (i_seq (d_var (pv 4))) (blkOk_by (own := [("pair", 13)]) (N := ["holders", "weights", "caps", "left", "active", "found", "whole", "rates", "length", "holder", "weight", "time", "cap", "pair"]) (sc := defScope (top 37)) (by decide +kernel)) (fun _ _ _ _ _ => (g_name (pg_name (i := 13) sc.nd rfl (Or.inl rfl)))) (fun _ _ _ _ _ => (t_one (PW.pt (c_or (c_dnin hu1 (d_ix ix_D (d_r (d_var (pv 13))) (d_r d_int) (fun _ _ => rfl)) (pv 3)) (c_or1 (c_cmp (op_neQ hu) (d_r (d_dget hu1 (pv 3) (d_ix ix_D (d_r (d_var (pv 13))) (d_r d_int) (fun _ _ => rfl)) (fun _ _ => rfl))) (d_r (d_gtup (is := [0, 1]) rfl gZERO)) (nomark _))))))) (fun _ _ _ _ _ => (d_var (pv 13)))))))
    (s_one (s_dk (ps_set (i := 3) sc.nd rfl (Or.inr rfl) (k_dict rfl rfl g.dict_ (by decide +kernel) (d_frz (l_lock 3 (l_comp (own := [("holder", 9)]) rfl sc.nd (i_dk (pv 3)) (blkOk_by (own := [("holder", 9)]) (N := ["holders", "weights", "caps", "left", "active", "found", "whole", "rates", "length", "holder", "weight", "time", "cap", "pair"]) (sc := defScope (top 37)) (by decide +kernel)) (fun _ _ _ _ _ => (g_name (pg_name (i := 9) sc.nd rfl (Or.inl rfl)))) (fun _ _ _ _ _ => (t_one (c_cmp (op_neQ hu) (d_r (d_dget hu1 (pv 3) (d_var (pv 9)) (fun _ _ => rfl))) (d_r (d_gtup (is := [0, 1]) rfl gZERO)) (nomark _)))) (fun _ _ _ _ _ => (d_tup (a_cons (d_var (pv 9)) (a_cons (d_dget hu1 (pv 3) (d_var (pv 9)) (fun _ _ => rfl)) a_nil)))) (by decide)))))))))))))))))
    (s_one (s_frz 5 (s_ret (d_var (pv 5))))))))

theorem sc_rung_pieces : FnScope ["holders", "rung"] ["holders", "rung"] (defScope (top 38)) := ⟨rfl, rfl, rfl, by decide +kernel, rfl, by decide +kernel, by decide +kernel⟩
theorem cal_rung_pieces {P : Program} {w : World} {K : PySem.W.Frag} {mg : Str → Option Value} {base : Heap} (g : Glob K mg) (F : ∃ f fd, FnP K "rung_pieces" (top 38) f fd ∧ mg "rung_pieces" = some (.ref f)) (c_share_pieces : CalP P w K mg base "share_pieces" 5 3 ["holders", "weights", "caps"] F_share_pieces) (c_fixed_pieces : CalP P w K mg base "fixed_pieces" 3 2 ["holders", "sums"] F_fixed_pieces) : CalP P w K mg base "rung_pieces" 6 2 ["holders", "rung"] F_rung_pieces := by
  obtain ⟨f, fd, F, hm⟩ := F
  obtain ⟨f_share_pieces, fd_share_pieces, ok_share_pieces, mg_share_pieces, kp_share_pieces, bd_share_pieces⟩ := c_share_pieces
  obtain ⟨f_fixed_pieces, fd_fixed_pieces, ok_fixed_pieces, mg_fixed_pieces, kp_fixed_pieces, bd_fixed_pieces⟩ := c_fixed_pieces
  refine ⟨f, fd, ?_, hm, F.kp, F.bindsN fun _ _ _ _ _ _ us hl => match us, hl with | [_, _], _ => rfl⟩
  have sc := sc_rung_pieces
  refine fn_P (toFun F) sc rfl fun cdv A outer s H E hr => ?_
  have hu := units64 hr
  have hu5 := units65 hr
  have hu1 := units1 hr
  exact (s_cons (s_if (c_cmp (op_eqQ hu) (d_r (d_ix ix_D (d_r (d_var (pv 1))) (d_r d_int) (fun _ _ => rfl))) (d_r d_str) (nomark _)) (s_one (s_ret (d_call ok_fixed_pieces (hr.mono (by decide : 3 ≤ 5)) rfl mg_fixed_pieces kp_fixed_pieces bd_fixed_pieces (a_cons (d_var (pv 0)) (a_cons (d_ix ix_D (d_r (d_var (pv 1))) (d_r d_int) (fun _ _ => rfl)) a_nil))))) s_nil)
    (s_one (s_ret (d_call ok_share_pieces (hr.mono (by decide : 5 ≤ 5)) rfl mg_share_pieces kp_share_pieces bd_share_pieces (a_cons (d_var (pv 0)) (a_cons (d_ix ix_D (d_r (d_var (pv 1))) (d_r d_int) (fun _ _ => rfl)) (a_cons (d_ix ix_D (d_r (d_var (pv 1))) (d_r d_int) (fun _ _ => rfl)) a_nil)))))))

theorem sc_pieces_of : FnScope ["ladder", "found", "number", "rung", "length", "rates"] ["ladder"] (defScope (top 39)) := ⟨rfl, rfl, rfl, by decide +kernel, rfl, by decide +kernel, by decide +kernel⟩
theorem cal_pieces_of {P : Program} {w : World} {K : PySem.W.Frag} {mg : Str → Option Value} {base : Heap} (g : Glob K mg) (F : ∃ f fd, FnP K "pieces_of" (top 39) f fd ∧ mg "pieces_of" = some (.ref f)) (c_is_endless : CalP P w K mg base "is_endless" 1 1 ["rung"] F_is_endless) (c_rung_pieces : CalP P w K mg base "rung_pieces" 6 2 ["holders", "rung"] F_rung_pieces) : CalP P w K mg base "pieces_of" 7 1 ["ladder"] F_pieces_of := by
  obtain ⟨f, fd, F, hm⟩ := F
  obtain ⟨f_is_endless, fd_is_endless, ok_is_endless, mg_is_endless, kp_is_endless, bd_is_endless⟩ := c_is_endless
  obtain ⟨f_rung_pieces, fd_rung_pieces, ok_rung_pieces, mg_rung_pieces, kp_rung_pieces, bd_rung_pieces⟩ := c_rung_pieces
  refine ⟨f, fd, ?_, hm, F.kp, F.bindsN fun _ _ _ _ _ _ us hl => match us, hl with | [_], _ => rfl⟩
  have sc := sc_pieces_of
  refine fn_P (toFun F) sc rfl fun cdv A outer s H E hr => ?_
  have hu := units64 hr
  have hu5 := units65 hr
  have hu1 := units1 hr
  exact (s_cons (s_own (ps_set (i := 1) sc.nd rfl (Or.inl rfl) (l_lst a_nil)))
    (s_cons (s_for PassesOwn.never rfl (i_enum rfl g.enumerate_ (a_cons (d_ix ix_D (d_r (d_var (pv 0))) (d_r d_int) (fun _ _ => rfl)) a_nil)) (g_tup rfl (gs_cons (g_name (pg_name (i := 2) sc.nd rfl (Or.inr rfl))) (gs_cons (g_name (pg_name (i := 3) sc.nd rfl (Or.inl rfl))) gs_nil))) (s_cons (s_ext (ps_expr (pe_bm PySem.F.plainAttrs_list PySem.F.slot_list_extend PySem.F.type_list_extend mt_extend (pv 1) (pa_cons (l_comp (own := [("length", 4), ("rates", 5)]) rfl sc.nd (i_seq (d_call ok_rung_pieces (hr.mono (by decide : 6 ≤ 6)) rfl mg_rung_pieces kp_rung_pieces bd_rung_pieces (a_cons (d_ix ix_D (d_r (d_var (pv 0))) (d_r d_int) (fun _ _ => rfl)) (a_cons (d_var (pv 3)) a_nil)))) (blkOk_by (own := [("length", 4), ("rates", 5)]) (N := ["ladder", "found", "number", "rung", "length", "rates"]) (sc := defScope (top 39)) (by decide +kernel)) (fun _ _ _ _ _ => (g_tup rfl (gs_cons (g_name (pg_name (i := 4) sc.nd rfl (Or.inl rfl))) (gs_cons (g_name (pg_name (i := 5) sc.nd rfl (Or.inl rfl))) gs_nil)))) (fun _ _ _ _ _ => t_yes) (fun _ _ _ _ _ => (d_tup (a_cons (d_var (pv 2)) (a_cons (d_var (pv 4)) (a_cons (d_var (pv 5)) a_nil))))) (by decide)) pa_nil))))
    (s_one (s_if (c_val (d_call ok_is_endless (hr.mono (by decide : 1 ≤ 6)) rfl mg_is_endless kp_is_endless bd_is_endless (a_cons (d_var (pv 3)) a_nil))) (s_one (s_frz 1 (s_ret (d_var (pv 1))))) s_nil))))
    (s_one (s_frz 1 (s_ret (d_var (pv 1)))))))

theorem sc_found_bends : FnScope ["ladder", "holder", "found", "amount", "paid", "number", "length", "rates"] ["ladder", "holder"] (defScope (top 40)) := ⟨rfl, rfl, rfl, by decide +kernel, rfl, by decide +kernel, by decide +kernel⟩
theorem cal_found_bends {P : Program} {w : World} {K : PySem.W.Frag} {mg : Str → Option Value} {base : Heap} (g : Glob K mg) (F : ∃ f fd, FnP K "found_bends" (top 40) f fd ∧ mg "found_bends" = some (.ref f)) (gZERO : HasZero K mg) (c_pieces_of : CalP P w K mg base "pieces_of" 7 1 ["ladder"] F_pieces_of) (c_plus : CalP P w K mg base "plus" 3 2 ["one", "other"] F_plus) (c_product : CalP P w K mg base "product" 3 2 ["one", "other"] F_product) : CalP P w K mg base "found_bends" 8 2 ["ladder", "holder"] F_found_bends := by
  obtain ⟨f, fd, F, hm⟩ := F
  obtain ⟨f_pieces_of, fd_pieces_of, ok_pieces_of, mg_pieces_of, kp_pieces_of, bd_pieces_of⟩ := c_pieces_of
  obtain ⟨f_plus, fd_plus, ok_plus, mg_plus, kp_plus, bd_plus⟩ := c_plus
  obtain ⟨f_product, fd_product, ok_product, mg_product, kp_product, bd_product⟩ := c_product
  refine ⟨f, fd, ?_, hm, F.kp, F.bindsN fun _ _ _ _ _ _ us hl => match us, hl with | [_, _], _ => rfl⟩
  have sc := sc_found_bends
  refine fn_P (toFun F) sc rfl fun cdv A outer s H E hr => ?_
  have hu := units64 hr
  have hu5 := units65 hr
  have hu1 := units1 hr
  exact (s_cons (s_par3 (ps_par3 (i := 2) (j := 3) (l := 4) rfl sc.nd rfl rfl rfl (by decide) (by decide) (by decide) rfl rfl rfl (m_l (l_lst a_nil) (m_d (d_gtup (is := [0, 1]) rfl gZERO) (m_d (d_gtup (is := [0, 1]) rfl gZERO) m_nil))) rfl))
    (s_cons (s_for PassesOwn.never rfl (i_seq (d_call ok_pieces_of (hr.mono (by decide : 7 ≤ 7)) rfl mg_pieces_of kp_pieces_of bd_pieces_of (a_cons (d_var (pv 0)) a_nil))) (g_tup rfl (gs_cons (g_name (pg_name (i := 5) sc.nd rfl (Or.inl rfl))) (gs_cons (g_name (pg_name (i := 6) sc.nd rfl (Or.inl rfl))) (gs_cons (g_name (pg_name (i := 7) sc.nd rfl (Or.inl rfl))) gs_nil)))) (s_cons (s_if (PW.pt (c_or (c_cmp (op_eqQ hu) (d_bor (pv 2)) (d_r (d_frz (l_lst a_nil))) (nomark _)) (c_or1 (c_cmp (op_neQ hu) (d_r (d_ix ix_D (d_r (d_ix ix_D (d_bor (pv 2)) (d_r (d_un un_negD (d_r d_int))) (fun _ _ => rfl))) (d_r d_int) (fun _ _ => rfl))) (d_r (d_ix ix_D (d_r (d_var (pv 7))) (d_r (d_var (pv 1))) (fun _ _ => rfl))) (nomark _))))) (s_one (s_app (ps_expr (pe_bm PySem.F.plainAttrs_list PySem.F.slot_list_append PySem.F.type_list_append mt_append (pv 2) (pa_cons (d_tup (a_cons (d_var (pv 3)) (a_cons (d_var (pv 4)) (a_cons (d_ix ix_D (d_r (d_var (pv 7))) (d_r (d_var (pv 1))) (fun _ _ => rfl)) a_nil)))) pa_nil))))) s_nil)
    (s_one (s_if (c_cmp op_isNotQ (d_r (d_var (pv 6))) (d_r d_non) (nomark _)) (s_cons (s_asg (ps_set (i := 3) sc.nd rfl (Or.inl rfl) (d_call ok_plus (hr.mono (by decide : 3 ≤ 7)) rfl mg_plus kp_plus bd_plus (a_cons (d_var (pv 3)) (a_cons (d_var (pv 6)) a_nil)))))
    (s_one (s_asg (ps_set (i := 4) sc.nd rfl (Or.inl rfl) (d_call ok_plus (hr.mono (by decide : 3 ≤ 7)) rfl mg_plus kp_plus bd_plus (a_cons (d_var (pv 4)) (a_cons (d_call ok_product (hr.mono (by decide : 3 ≤ 7)) rfl mg_product kp_product bd_product (a_cons (d_var (pv 6)) (a_cons (d_ix ix_D (d_r (d_var (pv 7))) (d_r (d_var (pv 1))) (fun _ _ => rfl)) a_nil))) a_nil))))))) s_nil))))
    (s_one (s_frz 2 (s_ret (d_var (pv 2)))))))

theorem sc_payment_at : FnScope ["rows", "amount", "some", "start", "paid", "rate", "row"] ["rows", "amount"] (defScope (top 41)) := ⟨rfl, rfl, rfl, by decide +kernel, rfl, by decide +kernel, by decide +kernel⟩
theorem cal_payment_at {P : Program} {w : World} {K : PySem.W.Frag} {mg : Str → Option Value} {base : Heap} (g : Glob K mg) (F : ∃ f fd, FnP K "payment_at" (top 41) f fd ∧ mg "payment_at" = some (.ref f)) (c_plus : CalP P w K mg base "plus" 3 2 ["one", "other"] F_plus) (c_product : CalP P w K mg base "product" 3 2 ["one", "other"] F_product) (c_minus : CalP P w K mg base "minus" 4 2 ["one", "other"] F_minus) (c_is_less : CalP P w K mg base "is_less" 1 2 ["one", "other"] F_is_less) : CalP P w K mg base "payment_at" 5 2 ["rows", "amount"] F_payment_at := by
  obtain ⟨f, fd, F, hm⟩ := F
  obtain ⟨f_plus, fd_plus, ok_plus, mg_plus, kp_plus, bd_plus⟩ := c_plus
  obtain ⟨f_product, fd_product, ok_product, mg_product, kp_product, bd_product⟩ := c_product
  obtain ⟨f_minus, fd_minus, ok_minus, mg_minus, kp_minus, bd_minus⟩ := c_minus
  obtain ⟨f_is_less, fd_is_less, ok_is_less, mg_is_less, kp_is_less, bd_is_less⟩ := c_is_less
  refine ⟨f, fd, ?_, hm, F.kp, F.bindsN fun _ _ _ _ _ _ us hl => match us, hl with | [_, _], _ => rfl⟩
  have sc := sc_payment_at
  refine fn_P (toFun F) sc rfl fun cdv A outer s H E hr => ?_
  have hu := units64 hr
  have hu5 := units65 hr
  have hu1 := units1 hr
  exact (s_cons (s_asg (as_frz (as_comp (by decide) (ps_setLc (own := [("row", 6)]) (i := 2) rfl sc.nd rfl rfl (sw_true rfl rfl rfl (by decide +kernel)) (i_seq (d_var (pv 0))) (blkOk_by (own := [("row", 6)]) (N := ["rows", "amount", "some", "start", "paid", "rate", "row"]) (sc := defScope (top 41)) (by decide +kernel)) (fun _ _ _ _ _ => (g_name (pg_name (i := 6) sc.nd rfl (Or.inl rfl)))) (fun _ _ _ _ _ => (t_one (c_not (c_val (d_call ok_is_less (hr.mono (by decide : 1 ≤ 4)) rfl mg_is_less kp_is_less bd_is_less (a_cons (d_var (pv 1)) (a_cons (d_ix ix_D (d_r (d_var (pv 6))) (d_r d_int) (fun _ _ => rfl)) a_nil))))))) (fun _ _ _ _ _ => (d_var (pv 6)))))))
    (s_cons (s_asgG (ps_asg (d_ix ix_D (d_r (d_var (pv 2))) (d_r (d_un un_negD (d_r d_int))) (fun _ _ => rfl)) (g_tup rfl (gs_cons (g_name (pg_name (i := 3) sc.nd rfl (Or.inl rfl))) (gs_cons (g_name (pg_name (i := 4) sc.nd rfl (Or.inl rfl))) (gs_cons (g_name (pg_name (i := 5) sc.nd rfl (Or.inl rfl))) gs_nil))))))
    (s_one (s_ret (d_call ok_plus (hr.mono (by decide : 3 ≤ 4)) rfl mg_plus kp_plus bd_plus (a_cons (d_var (pv 4)) (a_cons (d_call ok_product (hr.mono (by decide : 3 ≤ 4)) rfl mg_product kp_product bd_product (a_cons (d_var (pv 5)) (a_cons (d_call ok_minus (hr.mono (by decide : 4 ≤ 4)) rfl mg_minus kp_minus bd_minus (a_cons (d_var (pv 1)) (a_cons (d_var (pv 3)) a_nil))) a_nil))) a_nil)))))))

theorem sc_all_payments : FnScope ["ladder", "amount", "holder"] ["ladder", "amount"] (defScope (top 42)) := ⟨rfl, rfl, rfl, by decide +kernel, rfl, by decide +kernel, by decide +kernel⟩
theorem cal_all_payments {P : Program} {w : World} {K : PySem.W.Frag} {mg : Str → Option Value} {base : Heap} (g : Glob K mg) (F : ∃ f fd, FnP K "all_payments" (top 42) f fd ∧ mg "all_payments" = some (.ref f)) (c_payment_at : CalP P w K mg base "payment_at" 5 2 ["rows", "amount"] F_payment_at) (c_found_bends : CalP P w K mg base "found_bends" 8 2 ["ladder", "holder"] F_found_bends) : CalP P w K mg base "all_payments" 9 2 ["ladder", "amount"] F_all_payments := by
  obtain ⟨f, fd, F, hm⟩ := F
  obtain ⟨f_payment_at, fd_payment_at, ok_payment_at, mg_payment_at, kp_payment_at, bd_payment_at⟩ := c_payment_at
  obtain ⟨f_found_bends, fd_found_bends, ok_found_bends, mg_found_bends, kp_found_bends, bd_found_bends⟩ := c_found_bends
  refine ⟨f, fd, ?_, hm, F.kp, F.bindsN fun _ _ _ _ _ _ us hl => match us, hl with | [_, _], _ => rfl⟩
  have sc := sc_all_payments
  refine fn_P (toFun F) sc rfl fun cdv A outer s H E hr => ?_
  have hu := units64 hr
  have hu5 := units65 hr
  have hu1 := units1 hr
  exact (s_one (s_ret (d_callTy ct_tuple rfl g.tuple_ (by decide +kernel) (r_cons (d_r (d_frz (l_comp (own := [("holder", 2)]) rfl sc.nd (i_rng rfl g.range_ (a_cons (d_ix ix_D (d_r (d_var (pv 0))) (d_r d_int) (fun _ _ => rfl)) a_nil)) (blkOk_by (own := [("holder", 2)]) (N := ["ladder", "amount", "holder"]) (sc := defScope (top 42)) (by decide +kernel)) (fun _ _ _ _ _ => (g_name (pg_name (i := 2) sc.nd rfl (Or.inl rfl)))) (fun _ _ _ _ _ => t_yes) (fun _ _ _ _ _ => (d_call ok_payment_at (hr.mono (by decide : 5 ≤ 8)) rfl mg_payment_at kp_payment_at bd_payment_at (a_cons (d_call ok_found_bends (hr.mono (by decide : 8 ≤ 8)) rfl mg_found_bends kp_found_bends bd_found_bends (a_cons (d_var (pv 0)) (a_cons (d_var (pv 2)) a_nil))) (a_cons (d_var (pv 1)) a_nil)))) (by decide)))) r_nil))))

theorem sc_pairs_text : FnScope ["pairs", "holder", "one"] ["pairs"] (defScope (top 46)) := ⟨rfl, rfl, rfl, by decide +kernel, rfl, by decide +kernel, by decide +kernel⟩
theorem cal_pairs_text {P : Program} {w : World} {K : PySem.W.Frag} {mg : Str → Option Value} {base : Heap} (g : Glob K mg) (F : ∃ f fd, FnP K "pairs_text" (top 46) f fd ∧ mg "pairs_text" = some (.ref f))  : CalP P w K mg base "pairs_text" 1 1 ["pairs"] F_pairs_text := by
  obtain ⟨f, fd, F, hm⟩ := F
  refine ⟨f, fd, ?_, hm, F.kp, F.bindsN fun _ _ _ _ _ _ us hl => match us, hl with | [_], _ => rfl⟩
  have sc := sc_pairs_text
  refine fn_P (toFun F) sc rfl fun cdv A outer s H E hr => ?_
  have hu := units64 hr
  have hu5 := units65 hr
  have hu1 := units1 hr
  exact (s_one (s_ret (d_join d_str (d_frz (l_comp (own := [("holder", 1), ("one", 2)]) rfl sc.nd (i_seq (d_var (pv 0))) (blkOk_by (own := [("holder", 1), ("one", 2)]) (N := ["pairs", "holder", "one"]) (sc := defScope (top 46)) (by decide +kernel)) (fun _ _ _ _ _ => (g_tup rfl (gs_cons (g_name (pg_name (i := 1) sc.nd rfl (Or.inl rfl))) (gs_cons (g_name (pg_name (i := 2) sc.nd rfl (Or.inl rfl))) gs_nil)))) (fun _ _ _ _ _ => t_yes) (fun _ _ _ _ _ => (d_fst (pj_fmt (d_var (pv 1)) (pj_con (pj_fmt (d_var (pv 2)) pj_nil))))) (by decide))))))

theorem sc_rung_text : FnScope ["rung", "found"] ["rung"] (defScope (top 47)) := ⟨rfl, rfl, rfl, by decide +kernel, rfl, by decide +kernel, by decide +kernel⟩
theorem cal_rung_text {P : Program} {w : World} {K : PySem.W.Frag} {mg : Str → Option Value} {base : Heap} (g : Glob K mg) (F : ∃ f fd, FnP K "rung_text" (top 47) f fd ∧ mg "rung_text" = some (.ref f)) (c_pairs_text : CalP P w K mg base "pairs_text" 1 1 ["pairs"] F_pairs_text) : CalP P w K mg base "rung_text" 2 1 ["rung"] F_rung_text := by
  obtain ⟨f, fd, F, hm⟩ := F
  obtain ⟨f_pairs_text, fd_pairs_text, ok_pairs_text, mg_pairs_text, kp_pairs_text, bd_pairs_text⟩ := c_pairs_text
  refine ⟨f, fd, ?_, hm, F.kp, F.bindsN fun _ _ _ _ _ _ us hl => match us, hl with | [_], _ => rfl⟩
  have sc := sc_rung_text
  refine fn_P (toFun F) sc rfl fun cdv A outer s H E hr => ?_
  have hu := units64 hr
  have hu5 := units65 hr
  have hu1 := units1 hr
  exact (s_cons (s_if (c_cmp (op_eqQ hu) (d_r (d_ix ix_D (d_r (d_var (pv 0))) (d_r d_int) (fun _ _ => rfl))) (d_r d_str) (nomark _)) (s_one (s_ret (d_bin op_addD (d_r d_str) (d_r (d_call ok_pairs_text (hr.mono (by decide : 1 ≤ 1)) rfl mg_pairs_text kp_pairs_text bd_pairs_text (a_cons (d_ix ix_D (d_r (d_var (pv 0))) (d_r d_int) (fun _ _ => rfl)) a_nil)))))) s_nil)
    (s_cons (s_asg (ps_set (i := 1) sc.nd rfl (Or.inl rfl) (d_bin op_addD (d_r d_str) (d_r (d_call ok_pairs_text (hr.mono (by decide : 1 ≤ 1)) rfl mg_pairs_text kp_pairs_text bd_pairs_text (a_cons (d_ix ix_D (d_r (d_var (pv 0))) (d_r d_int) (fun _ _ => rfl)) a_nil))))))
    (s_one (s_ret (d_if (c_cmp (op_neQ hu) (d_r (d_ix ix_D (d_r (d_var (pv 0))) (d_r d_int) (fun _ _ => rfl))) (d_r (d_tup a_nil)) (nomark _)) (d_bin op_addD (d_r (d_bin op_addD (d_r (d_var (pv 1))) (d_r d_str))) (d_r (d_call ok_pairs_text (hr.mono (by decide : 1 ≤ 1)) rfl mg_pairs_text kp_pairs_text bd_pairs_text (a_cons (d_ix ix_D (d_r (d_var (pv 0))) (d_r d_int) (fun _ _ => rfl)) a_nil)))) (d_var (pv 1)))))))

theorem sc_ladder_text : FnScope ["ladder", "rung"] ["ladder"] (defScope (top 48)) := ⟨rfl, rfl, rfl, by decide +kernel, rfl, by decide +kernel, by decide +kernel⟩
theorem cal_ladder_text {P : Program} {w : World} {K : PySem.W.Frag} {mg : Str → Option Value} {base : Heap} (g : Glob K mg) (F : ∃ f fd, FnP K "ladder_text" (top 48) f fd ∧ mg "ladder_text" = some (.ref f)) (c_rung_text : CalP P w K mg base "rung_text" 2 1 ["rung"] F_rung_text) : CalP P w K mg base "ladder_text" 3 1 ["ladder"] F_ladder_text := by
  obtain ⟨f, fd, F, hm⟩ := F
  obtain ⟨f_rung_text, fd_rung_text, ok_rung_text, mg_rung_text, kp_rung_text, bd_rung_text⟩ := c_rung_text
  refine ⟨f, fd, ?_, hm, F.kp, F.bindsN fun _ _ _ _ _ _ us hl => match us, hl with | [_], _ => rfl⟩
  have sc := sc_ladder_text
  refine fn_P (toFun F) sc rfl fun cdv A outer s H E hr => ?_
  have hu := units64 hr
  have hu5 := units65 hr
  have hu1 := units1 hr
  exact (s_one (s_ret (d_bin op_addD (d_r (d_fst (pj_fmt (d_ix ix_D (d_r (d_var (pv 0))) (d_r d_int) (fun _ _ => rfl)) (pj_con pj_nil)))) (d_r (d_join d_str (d_frz (l_comp (own := [("rung", 1)]) rfl sc.nd (i_seq (d_ix ix_D (d_r (d_var (pv 0))) (d_r d_int) (fun _ _ => rfl))) (blkOk_by (own := [("rung", 1)]) (N := ["ladder", "rung"]) (sc := defScope (top 48)) (by decide +kernel)) (fun _ _ _ _ _ => (g_name (pg_name (i := 1) sc.nd rfl (Or.inl rfl)))) (fun _ _ _ _ _ => t_yes) (fun _ _ _ _ _ => (d_call ok_rung_text (hr.mono (by decide : 2 ≤ 2)) rfl mg_rung_text kp_rung_text bd_rung_text (a_cons (d_var (pv 1)) a_nil))) (by decide))))))))

theorem sc_number_of : FnScope ["word", "sign"] ["word"] (defScope (top 49)) := ⟨rfl, rfl, rfl, by decide +kernel, rfl, by decide +kernel, by decide +kernel⟩
theorem cal_number_of {P : Program} {w : World} {K : PySem.W.Frag} {mg : Str → Option Value} {base : Heap} (g : Glob K mg) (F : ∃ f fd, FnP K "number_of" (top 49) f fd ∧ mg "number_of" = some (.ref f))  : CalP P w K mg base "number_of" 1 1 ["word"] F_number_of := by
  obtain ⟨f, fd, F, hm⟩ := F
  refine ⟨f, fd, ?_, hm, F.kp, F.bindsN fun _ _ _ _ _ _ us hl => match us, hl with | [_], _ => rfl⟩
  have sc := sc_number_of
  refine fn_P (toFun F) sc rfl fun cdv A outer s H E hr => ?_
  have hu := units64 hr
  have hu5 := units65 hr
  have hu1 := units1 hr
  exact (s_one (s_ret (d_if (PW.pt (c_and (c_chain op_leD op_leD (d_r d_int) (d_r (d_callB cb_len rfl g.len_ (by decide +kernel) (r_cons (d_r (d_var (pv 0))) r_nil))) (d_r d_int)) (c_and1 (c_val (d_callB (cb_all rfl) rfl g.all_ (by decide +kernel) (r_cons (d_r (d_frz (l_comp (own := [("sign", 1)]) rfl sc.nd (i_chr (d_var (pv 0))) (blkOk_by (own := [("sign", 1)]) (N := ["word", "sign"]) (sc := defScope (top 49)) (by decide +kernel)) (fun _ _ _ _ _ => (g_name (pg_name (i := 1) sc.nd rfl (Or.inl rfl)))) (fun _ _ _ _ _ => t_yes) (fun _ _ _ _ _ => (d_cmp op_inTD (d_r (d_var (pv 1))) (d_r d_str) (by rfl))) (by decide)))) r_nil)))))) (d_callTy ct_intT rfl g.int_ (by decide +kernel) (r_cons (d_r (d_var (pv 0))) r_nil)) (d_un un_negD (d_r d_int)))))

theorem sc_read_pairs : FnScope ["text", "word", "part"] ["text"] (defScope (top 50)) := ⟨rfl, rfl, rfl, by decide +kernel, rfl, by decide +kernel, by decide +kernel⟩
theorem cal_read_pairs {P : Program} {w : World} {K : PySem.W.Frag} {mg : Str → Option Value} {base : Heap} (g : Glob K mg) (F : ∃ f fd, FnP K "read_pairs" (top 50) f fd ∧ mg "read_pairs" = some (.ref f)) (c_number_of : CalP P w K mg base "number_of" 1 1 ["word"] F_number_of) : CalP P w K mg base "read_pairs" 2 1 ["text"] F_read_pairs := by
  obtain ⟨f, fd, F, hm⟩ := F
  obtain ⟨f_number_of, fd_number_of, ok_number_of, mg_number_of, kp_number_of, bd_number_of⟩ := c_number_of
  refine ⟨f, fd, ?_, hm, F.kp, F.bindsN fun _ _ _ _ _ _ us hl => match us, hl with | [_], _ => rfl⟩
  have sc := sc_read_pairs
  refine fn_P (toFun F) sc rfl fun cdv A outer s H E hr => ?_
  have hu := units64 hr
  have hu5 := units65 hr
  have hu1 := units1 hr
  exact (s_one (s_ret (d_callTy ct_tuple rfl g.tuple_ (by decide +kernel) (r_cons (d_r (d_frz (l_comp (own := [("word", 1)]) rfl sc.nd (i_seq (d_frz (l_split (d_var (pv 0)) d_str))) (blkOk_by (own := [("word", 1)]) (N := ["text", "word", "part"]) (sc := defScope (top 50)) (by decide +kernel)) (fun _ _ _ _ _ => (g_name (pg_name (i := 1) sc.nd rfl (Or.inl rfl)))) (fun _ _ _ _ _ => t_yes) (fun _ _ _ _ _ => (d_callTy ct_tuple rfl g.tuple_ (by decide +kernel) (r_cons (d_r (d_frz (l_comp (own := [("part", 2)]) rfl sc.nd (i_seq (d_frz (l_split (d_var (pv 1)) d_str))) (blkOk_by (own := [("part", 2)]) (N := ["text", "word", "part"]) (sc := compSc (top 50)) (by decide +kernel)) (fun _ _ _ _ _ => (g_name (pg_name (i := 2) sc.nd rfl (Or.inl rfl)))) (fun _ _ _ _ _ => t_yes) (fun _ _ _ _ _ => (d_call ok_number_of (hr.mono (by decide : 1 ≤ 1)) rfl mg_number_of kp_number_of bd_number_of (a_cons (d_var (pv 2)) a_nil))) (by decide)))) r_nil))) (by decide)))) r_nil))))

theorem sc_read_rung : FnScope ["text", "parts"] ["text"] (defScope (top 51)) := ⟨rfl, rfl, rfl, by decide +kernel, rfl, by decide +kernel, by decide +kernel⟩
theorem cal_read_rung {P : Program} {w : World} {K : PySem.W.Frag} {mg : Str → Option Value} {base : Heap} (g : Glob K mg) (F : ∃ f fd, FnP K "read_rung" (top 51) f fd ∧ mg "read_rung" = some (.ref f)) (c_read_pairs : CalP P w K mg base "read_pairs" 2 1 ["text"] F_read_pairs) : CalP P w K mg base "read_rung" 3 1 ["text"] F_read_rung := by
  obtain ⟨f, fd, F, hm⟩ := F
  obtain ⟨f_read_pairs, fd_read_pairs, ok_read_pairs, mg_read_pairs, kp_read_pairs, bd_read_pairs⟩ := c_read_pairs
  refine ⟨f, fd, ?_, hm, F.kp, F.bindsN fun _ _ _ _ _ _ us hl => match us, hl with | [_], _ => rfl⟩
  have sc := sc_read_rung
  refine fn_P (toFun F) sc rfl fun cdv A outer s H E hr => ?_
  have hu := units64 hr
  have hu5 := units65 hr
  have hu1 := units1 hr
  exact (s_cons (s_if (c_cmp (op_eqQ hu) (d_r (d_slice (d_r (d_var (pv 0))) o_none (o_some d_int))) (d_r d_str) (nomark _)) (s_one (s_ret (d_tup (a_cons d_str (a_cons (d_call ok_read_pairs (hr.mono (by decide : 2 ≤ 2)) rfl mg_read_pairs kp_read_pairs bd_read_pairs (a_cons (d_slice (d_r (d_var (pv 0))) (o_some d_int) o_none) a_nil)) a_nil))))) s_nil)
    (s_cons (s_asg (ps_set (i := 1) sc.nd rfl (Or.inl rfl) (d_frz (l_split (d_slice (d_r (d_var (pv 0))) (o_some d_int) o_none) d_str))))
    (s_cons (s_if (PW.pt (c_or (c_cmp (op_neQ hu) (d_r (d_slice (d_r (d_var (pv 0))) o_none (o_some d_int))) (d_r d_str) (nomark _)) (c_or1 (c_cmp op_gtD (d_r (d_callB cb_len rfl g.len_ (by decide +kernel) (r_cons (d_r (d_var (pv 1))) r_nil))) (d_r d_int) (nomark _))))) (s_one (s_ret d_non)) s_nil)
    (s_one (s_ret (d_tup (a_cons d_str (a_cons (d_call ok_read_pairs (hr.mono (by decide : 2 ≤ 2)) rfl mg_read_pairs kp_read_pairs bd_read_pairs (a_cons (d_ix ix_D (d_r (d_var (pv 1))) (d_r d_int) (fun _ _ => rfl)) a_nil)) (a_cons (d_if (c_cmp (op_eqQ hu) (d_r (d_callB cb_len rfl g.len_ (by decide +kernel) (r_cons (d_r (d_var (pv 1))) r_nil))) (d_r d_int) (nomark _)) (d_call ok_read_pairs (hr.mono (by decide : 2 ≤ 2)) rfl mg_read_pairs kp_read_pairs bd_read_pairs (a_cons (d_ix ix_D (d_r (d_var (pv 1))) (d_r d_int) (fun _ _ => rfl)) a_nil)) (d_tup a_nil)) a_nil)))))))))

theorem sc_parse_ladder : FnScope ["text", "sides", "found", "part"] ["text"] (defScope (top 52)) := ⟨rfl, rfl, rfl, by decide +kernel, rfl, by decide +kernel, by decide +kernel⟩
theorem cal_parse_ladder {P : Program} {w : World} {K : PySem.W.Frag} {mg : Str → Option Value} {base : Heap} (g : Glob K mg) (F : ∃ f fd, FnP K "parse_ladder" (top 52) f fd ∧ mg "parse_ladder" = some (.ref f)) (c_number_of : CalP P w K mg base "number_of" 1 1 ["word"] F_number_of) (c_is_ladder : CalP P w K mg base "is_ladder" 4 1 ["value"] F_is_ladder) (c_ladder_text : CalP P w K mg base "ladder_text" 3 1 ["ladder"] F_ladder_text) (c_read_rung : CalP P w K mg base "read_rung" 3 1 ["text"] F_read_rung) : CalP P w K mg base "parse_ladder" 5 1 ["text"] F_parse_ladder := by
  obtain ⟨f, fd, F, hm⟩ := F
  obtain ⟨f_number_of, fd_number_of, ok_number_of, mg_number_of, kp_number_of, bd_number_of⟩ := c_number_of
  obtain ⟨f_is_ladder, fd_is_ladder, ok_is_ladder, mg_is_ladder, kp_is_ladder, bd_is_ladder⟩ := c_is_ladder
  obtain ⟨f_ladder_text, fd_ladder_text, ok_ladder_text, mg_ladder_text, kp_ladder_text, bd_ladder_text⟩ := c_ladder_text
  obtain ⟨f_read_rung, fd_read_rung, ok_read_rung, mg_read_rung, kp_read_rung, bd_read_rung⟩ := c_read_rung
  refine ⟨f, fd, ?_, hm, F.kp, F.bindsN fun _ _ _ _ _ _ us hl => match us, hl with | [_], _ => rfl⟩
  have sc := sc_parse_ladder
  refine fn_P (toFun F) sc rfl fun cdv A outer s H E hr => ?_
  have hu := units64 hr
  have hu5 := units65 hr
  have hu1 := units1 hr
  exact (s_cons (s_if (c_not (c_val (d_isi rfl g.isinstance rfl g.str_ (by decide +kernel) (d_r (d_var (pv 0)))))) (s_one s_never) s_nil)
    (s_cons (s_asg (ps_set (i := 1) sc.nd rfl (Or.inl rfl) (d_frz (l_split (d_var (pv 0)) d_str))))
    (s_cons (s_asg (ps_set (i := 2) sc.nd rfl (Or.inl rfl) (d_tup (a_cons (d_call ok_number_of (hr.mono (by decide : 1 ≤ 4)) rfl mg_number_of kp_number_of bd_number_of (a_cons (d_ix ix_D (d_r (d_var (pv 1))) (d_r d_int) (fun _ _ => rfl)) a_nil)) (a_cons (d_callTy ct_tuple rfl g.tuple_ (by decide +kernel) (r_cons (d_r (d_frz (l_comp (own := [("part", 3)]) rfl sc.nd (i_seq (d_frz (l_split (d_ix ix_D (d_r (d_var (pv 1))) (d_r (d_un un_negD (d_r d_int))) (fun _ _ => rfl)) d_str))) (blkOk_by (own := [("part", 3)]) (N := ["text", "sides", "found", "part"]) (sc := defScope (top 52)) (by decide +kernel)) (fun _ _ _ _ _ => (g_name (pg_name (i := 3) sc.nd rfl (Or.inl rfl)))) (fun _ _ _ _ _ => t_yes) (fun _ _ _ _ _ => (d_call ok_read_rung (hr.mono (by decide : 3 ≤ 4)) rfl mg_read_rung kp_read_rung bd_read_rung (a_cons (d_var (pv 3)) a_nil))) (by decide)))) r_nil)) a_nil)))))
    (s_cons (s_if (PW.pt (c_or (c_not (c_val (d_call ok_is_ladder (hr.mono (by decide : 4 ≤ 4)) rfl mg_is_ladder kp_is_ladder bd_is_ladder (a_cons (d_var (pv 2)) a_nil)))) (c_or1 (c_cmp (op_neQ hu) (d_r (d_call ok_ladder_text (hr.mono (by decide : 3 ≤ 4)) rfl mg_ladder_text kp_ladder_text bd_ladder_text (a_cons (d_var (pv 2)) a_nil))) (d_r (d_var (pv 0))) (nomark _))))) (s_one s_never) s_nil)
    (s_one (s_ret (d_var (pv 2))))))))

theorem sc_save : FnScope ["session", "rows", "amount"] ["session"] (defScope (top 54)) := ⟨rfl, rfl, rfl, by decide +kernel, rfl, by decide +kernel, by decide +kernel⟩
theorem cal_save {P : Program} {w : World} {K : PySem.W.Frag} {mg : Str → Option Value} {base : Heap} (g : Glob K mg) (F : ∃ f fd, FnP K "save" (top 54) f fd ∧ mg "save" = some (.ref f)) (sC : SesC K) (c_ladder_text : CalP P w K mg base "ladder_text" 3 1 ["ladder"] F_ladder_text) : MSv P w K mg base 4 F_save := by
  obtain ⟨f, fd, F, hm⟩ := F
  obtain ⟨f_ladder_text, fd_ladder_text, ok_ladder_text, mg_ladder_text, kp_ladder_text, bd_ladder_text⟩ := c_ladder_text
  refine ⟨f, fd, ?_, hm, F.kp, F.bindsN fun _ _ _ _ _ _ us hl => match us, hl with | [_], _ => rfl⟩
  have sc := sc_save
  refine fn_Q (toFun F) sc rfl fun cdv A outer s H E hr => ?_
  have hu := units64 hr
  have hu5 := units65 hr
  have hu1 := units1 hr
  exact (s_cons (s_own (as_comp (by decide) (ps_setLc (own := [("amount", 2)]) (i := 1) rfl sc.nd rfl rfl (sw_true rfl rfl rfl (by decide +kernel)) (i_seq (d_fldD sC (pv 0))) (blkOk_by (own := [("amount", 2)]) (N := ["session", "rows", "amount"]) (sc := defScope (top 54)) (by decide +kernel)) (fun _ _ _ _ _ => (g_name (pg_name (i := 2) sc.nd rfl (Or.inl rfl)))) (fun _ _ _ _ _ => t_yes) (fun _ _ _ _ _ => (d_fst (pj_fmt (d_ix ix_D (d_r (d_var (pv 2))) (d_r d_int) (fun _ _ => rfl)) (pj_con (pj_fmt (d_ix ix_D (d_r (d_var (pv 2))) (d_r d_int) (fun _ _ => rfl)) pj_nil))))))))
    (s_cons (s_ext (ps_expr (pe_bm PySem.F.plainAttrs_list PySem.F.slot_list_extend PySem.F.type_list_extend mt_extend (pv 1) (pa_cons (l_comp (own := [("amount", 2)]) rfl sc.nd (i_seq (d_frz (l_rev (d_fldU sC (pv 0))))) (blkOk_by (own := [("amount", 2)]) (N := ["session", "rows", "amount"]) (sc := defScope (top 54)) (by decide +kernel)) (fun _ _ _ _ _ => (g_name (pg_name (i := 2) sc.nd rfl (Or.inl rfl)))) (fun _ _ _ _ _ => t_yes) (fun _ _ _ _ _ => (d_fst (pj_con (pj_fmt (d_ix ix_D (d_r (d_var (pv 2))) (d_r d_int) (fun _ _ => rfl)) (pj_con (pj_fmt (d_ix ix_D (d_r (d_var (pv 2))) (d_r d_int) (fun _ _ => rfl)) pj_nil)))))) (by decide)) pa_nil))))
    (s_one (s_ret (d_bin op_addD (d_r (d_join d_str (d_bin op_addD (d_r (d_frz (l_lst (a_cons (d_call ok_ladder_text (hr.mono (by decide : 3 ≤ 3)) rfl mg_ladder_text kp_ladder_text bd_ladder_text (a_cons (d_fldL sC (pv 0)) a_nil)) a_nil)))) (d_bor (pv 1))))) (d_r d_str))))))

theorem sc_load : FnScope ["text", "first", "rows", "found", "undone", "row", "step", "top", "bottom"] ["text"] (defScope (top 55)) := ⟨rfl, rfl, rfl, by decide +kernel, rfl, by decide +kernel, by decide +kernel⟩
theorem cal_load {P : Program} {w : World} {K : PySem.W.Frag} {mg : Str → Option Value} {base : Heap} (g : Glob K mg) (F : ∃ f fd, FnP K "load" (top 55) f fd ∧ mg "load" = some (.ref f)) (sC : SesC K) (M_init : MI P w K mg base 6 F_X_init) (M_put : MM P w K mg base "put" 11 1 ["self", "amount"] F_X_put) (M_undo : MM P w K mg base "undo" 1 0 ["self"] F_X_undo) (EF : ExF K mg) (c_X_parse_ladder : CalX P w K mg base "parse_ladder" 5 1 ["text"] F_X_parse_ladder) : MLd P w K mg base 12 F_load := by
  obtain ⟨f, fd, F, hm⟩ := F
  obtain ⟨f_init, fd_init, mk_init, ok_init, mg_init, bd_init⟩ := M_init
  obtain ⟨f_put, fd_put, m_put, ok_put, bd_put⟩ := M_put
  obtain ⟨f_undo, fd_undo, m_undo, ok_undo, bd_undo⟩ := M_undo
  obtain ⟨f_X_parse_ladder, fd_X_parse_ladder, ok_X_parse_ladder, mg_X_parse_ladder, kp_X_parse_ladder, bd_X_parse_ladder⟩ := c_X_parse_ladder
  refine ⟨f, fd, ?_, hm, F.kp, F.bindsN fun _ _ _ _ _ _ us hl => match us, hl with | [_], _ => rfl⟩
  have sc := sc_load
  refine fn_XS (toFun F) sc rfl fun cdv A outer s H E hr => ?_
  have hu := units64 hr
  have hu5 := units65 hr
  have hu1 := units1 hr
  exact (s_cons (s_if (PW.pt (c_or (c_not (c_val (d_isi rfl g.isinstance rfl g.str_ (by decide +kernel) (d_r (d_var (pv 0)))))) (c_or1 (c_cmp (op_neQ hu) (d_r (d_slice (d_r (d_var (pv 0))) (o_some (d_un un_negD (d_r d_int))) o_none)) (d_r d_str) (nomark _))))) (s_one (s_raise rfl tkOf (EF.oe "InvalidText" (by decide +kernel)) rfl)) s_nil)
    (s_cons (s_star (ps_asg (l_split (d_slice (d_r (d_var (pv 0))) o_none (o_some (d_un un_negD (d_r d_int)))) d_str) (pg_star2 rfl (pg_name (i := 1) sc.nd rfl (Or.inl rfl)) (pg_name (i := 2) sc.nd rfl (Or.inl rfl)))))
    (s_cons (s_newS (ps_set (i := 3) sc.nd rfl (Or.inl rfl) (e_newS mk_init ok_init (hr.mono (by decide : 7 ≤ 11)) rfl mg_init bd_init tkOf (d_callE ok_X_parse_ladder (hr.mono (by decide : 5 ≤ 11)) rfl mg_X_parse_ladder kp_X_parse_ladder bd_X_parse_ladder tkOf (a_cons (d_var (pv 1)) a_nil)))))
    (s_cons (s_asg (ps_set (i := 4) sc.nd rfl (Or.inl rfl) d_int))
    (s_cons (s_for (passes_of rfl) rfl (i_seq (d_var (pv 2))) (g_name (pg_name (i := 5) sc.nd rfl (Or.inl rfl))) (s_augT (i := 4) sc.nd rfl (Or.inl rfl) (d_callTy ct_int rfl g.int_ (by decide +kernel) (r_cons (d_r (d_cmp (op_eqQ hu) (d_r (d_slice (d_r (d_var (pv 5))) o_none (o_some d_int))) (d_r d_str) (nomark _))) r_nil))
    (s_consT (s_asgGT (as_frzT (pst_asg (l_splitT (d_repl (d_var (pv 5))) d_str) (g_lst rfl (gs_cons (g_name (pg_name (i := 7) sc.nd rfl (Or.inl rfl))) (gs_cons (g_name (pg_name (i := 8) sc.nd rfl (Or.inl rfl))) gs_nil))))))
    (s_oneT (PST.of (s_exprX (x_meth sC m_put nf_put ok_put (hr.mono (by decide : 11 ≤ 11)) bd_put tkOf (pv 3) (a_cons (d_tup (a_cons (d_callTy ct_intT rfl g.int_ (by decide +kernel) (r_cons (d_r (d_var (pv 7))) r_nil)) (a_cons (d_callTy ct_intT rfl g.int_ (by decide +kernel) (r_cons (d_r (d_var (pv 8))) r_nil)) a_nil))) a_nil))))))))
    (s_cons (s_for (passes_of rfl) rfl (i_rng rfl g.range_ (a_cons (d_var (pv 4)) a_nil)) (g_name (pg_name (i := 6) sc.nd rfl (Or.inl rfl))) (s_one (s_exprX (x_meth0 sC m_undo nf_undo ok_undo (hr.mono (by decide : 1 ≤ 11)) bd_undo tkOf (pv 3)))))
    (s_one (s_retS (pv 3)))))))))

theorem sc__law_town : FnScope ["script"] ["script"] (defScope (top 57)) := ⟨rfl, rfl, rfl, by decide +kernel, rfl, by decide +kernel, by decide +kernel⟩
theorem cal__law_town {P : Program} {w : World} {K : PySem.W.Frag} {mg : Str → Option Value} {base : Heap} (g : Glob K mg) (F : ∃ f fd, FnP K "_law_town" (top 57) f fd ∧ mg "_law_town" = some (.ref f))  : CalL P w K mg base "_law_town" 1 1 ["script"] F__law_town := by
  obtain ⟨f, fd, F, hm⟩ := F
  refine ⟨f, fd, ?_, hm, F.kp, F.bindsN fun _ _ _ _ _ _ us hl => match us, hl with | [_], _ => rfl⟩
  have sc := sc__law_town
  refine fn_L (toFun F) sc rfl fun cdv A outer s H E hr => ?_
  have hu := units64 hr
  have hu5 := units65 hr
  have hu1 := units1 hr
  exact (s_one (s_retL (l_bin op_addL (d_r (d_frz (l_lst (a_cons d_int a_nil)))) (d_r (d_frz (l_callTy ct_list rfl g.list_ (by decide +kernel) (r_cons (d_r (d_var (pv 0))) r_nil)))))))

theorem sc__law_draw : FnScope ["script", "town", "limit", "at", "left", "number"] ["script", "town", "limit"] (defScope (top 58)) := ⟨rfl, rfl, rfl, by decide +kernel, rfl, by decide +kernel, by decide +kernel⟩
theorem cal__law_draw {P : Program} {w : World} {K : PySem.W.Frag} {mg : Str → Option Value} {base : Heap} (g : Glob K mg) (F : ∃ f fd, FnP K "_law_draw" (top 58) f fd ∧ mg "_law_draw" = some (.ref f))  : CalT P w K mg base "_law_draw" 1 1 ["script", "town", "limit"] F__law_draw := by
  obtain ⟨f, fd, F, hm⟩ := F
  refine ⟨f, fd, ?_, hm, F.kp, F.bindsN fun _ _ _ _ _ _ us hl => match us, hl with | [_, _, _], _ => rfl⟩
  have sc := sc__law_draw
  refine fn_T (toFun F) sc rfl fun cdv A outer s H E hr => ?_
  have hu := units64 hr
  have hu5 := units65 hr
  have hu1 := units1 hr
  exact (s_cons (s_setT (ps_asg (d_bin op_addD (d_r (d_ixT (pv 1) d_int (fun _ _ => rfl))) (d_r d_int)) (pg_sub (pv 1) d_int set_list)))
    (s_cons (s_if (c_cmp (op_eqQ hu) (d_r (d_var (pv 0))) (d_r (d_frz (l_lst a_nil))) (nomark _)) (s_one (s_ret (d_bin op_modD (d_r (d_bin op_fdivD (d_r (d_bin op_mulD (d_r (d_bin op_mulD (d_r (d_ixT (pv 1) d_int (fun _ _ => rfl))) (d_r (d_ixT (pv 1) d_int (fun _ _ => rfl))))) (d_r d_int))) (d_r d_int))) (d_r (d_var (pv 2)))))) s_nil)
    (s_cons (s_asg (ps_set (i := 3) sc.nd rfl (Or.inl rfl) (d_bin op_modD (d_r (d_ixT (pv 1) d_int (fun _ _ => rfl))) (d_r (d_callB cb_len rfl g.len_ (by decide +kernel) (r_cons (d_r (d_var (pv 0))) r_nil))))))
    (s_cons (s_asg (ps_set (i := 4) sc.nd rfl (Or.inl rfl) (d_ixT (pv 1) (d_bin op_addD (d_r d_int) (d_r (d_var (pv 3)))) (fun _ _ => rfl))))
    (s_cons (s_if (PW.pt (c_and (c_cmp op_geD (d_r (d_ix ix_D (d_r (d_var (pv 0))) (d_r (d_var (pv 3))) (fun _ _ => rfl))) (d_r (d_bin op_powD (d_r d_int) (d_r d_int))) (nomark _)) (c_and1 (c_cmp op_gtD (d_r (d_var (pv 4))) (d_r d_int) (nomark _))))) (s_cons (s_setT (ps_asg (d_bin op_fdivD (d_r (d_var (pv 4))) (d_r (d_var (pv 2)))) (pg_sub (pv 1) (d_bin op_addD (d_r d_int) (d_r (d_var (pv 3)))) set_list)))
    (s_one (s_ret (d_bin op_modD (d_r (d_var (pv 4))) (d_r (d_var (pv 2))))))) s_nil)
    (s_cons (s_asg (ps_set (i := 5) sc.nd rfl (Or.inl rfl) (d_bin op_modD (d_r (d_bin op_addD (d_r (d_ix ix_D (d_r (d_var (pv 0))) (d_r (d_var (pv 3))) (fun _ _ => rfl))) (d_r (d_bin op_mulD (d_r d_int) (d_r (d_ixT (pv 1) d_int (fun _ _ => rfl))))))) (d_r d_int))))
    (s_cons (s_asg (ps_set (i := 5) sc.nd rfl (Or.inl rfl) (d_bin op_modD (d_r (d_bin op_powD (d_r (d_var (pv 5))) (d_r d_int))) (d_r d_int))))
    (s_one (s_ret (d_bin op_modD (d_r (d_bin op_fdivD (d_r (d_bin op_modD (d_r (d_bin op_addD (d_r (d_bin op_mulD (d_r (d_bin op_fdivD (d_r (d_var (pv 5))) (d_r d_int))) (d_r d_int))) (d_r (d_var (pv 5))))) (d_r d_int))) (d_r d_int))) (d_r (d_var (pv 2)))))))))))))

theorem sc__law_pick : FnScope ["script", "town", "choices"] ["script", "town", "choices"] (defScope (top 59)) := ⟨rfl, rfl, rfl, by decide +kernel, rfl, by decide +kernel, by decide +kernel⟩
theorem cal__law_pick {P : Program} {w : World} {K : PySem.W.Frag} {mg : Str → Option Value} {base : Heap} (g : Glob K mg) (F : ∃ f fd, FnP K "_law_pick" (top 59) f fd ∧ mg "_law_pick" = some (.ref f)) (c__law_draw : CalT P w K mg base "_law_draw" 1 1 ["script", "town", "limit"] F__law_draw) : CalT P w K mg base "_law_pick" 2 1 ["script", "town", "choices"] F__law_pick := by
  obtain ⟨f, fd, F, hm⟩ := F
  obtain ⟨f__law_draw, fd__law_draw, ok__law_draw, mg__law_draw, kp__law_draw, bd__law_draw⟩ := c__law_draw
  refine ⟨f, fd, ?_, hm, F.kp, F.bindsN fun _ _ _ _ _ _ us hl => match us, hl with | [_, _, _], _ => rfl⟩
  have sc := sc__law_pick
  refine fn_T (toFun F) sc rfl fun cdv A outer s H E hr => ?_
  have hu := units64 hr
  have hu5 := units65 hr
  have hu1 := units1 hr
  exact (s_one (s_ret (d_ix ix_D (d_r (d_var (pv 2))) (d_r (d_callT ok__law_draw (hr.mono (by decide : 1 ≤ 1)) rfl mg__law_draw kp__law_draw bd__law_draw (d_var (pv 0)) (pv 1) (a_cons (d_callB cb_len rfl g.len_ (by decide +kernel) (r_cons (d_r (d_var (pv 2))) r_nil)) a_nil))) (fun _ _ => rfl))))

theorem sc__law_name : FnScope ["caught", "found"] ["caught"] (defScope (top 61)) := ⟨rfl, rfl, rfl, by decide +kernel, rfl, by decide +kernel, by decide +kernel⟩
theorem cal__law_name {P : Program} {w : World} {K : PySem.W.Frag} {mg : Str → Option Value} {base : Heap} (g : Glob K mg) (F : ∃ f fd, FnP K "_law_name" (top 61) f fd ∧ mg "_law_name" = some (.ref f)) (EF : ExF K mg)  (gVE : mg "ValueError" = none)  : CalN P w K mg base "_law_name" 1  ["caught"] F__law_name := by
  obtain ⟨f, fd, F, hm⟩ := F
  refine ⟨f, fd, ?_, hm, F.kp, F.bindsN fun _ _ _ _ _ _ us hl => match us, hl with | [_], _ => rfl⟩
  have sc := sc__law_name
  refine fn_N (toFun F) sc rfl fun cdv A outer s H E hr => ?_
  have hu := units64 hr
  have hu5 := units65 hr
  have hu1 := units1 hr
  exact (s_cons (s_if (c_not (c_val (d_isXV EF rfl g.isinstance rfl gVE (pv 0)))) (s_one (s_ret (d_un un_negD (d_r d_int)))) s_nil)
    (s_cons (s_asg (ps_set (i := 1) sc.nd rfl (Or.inl rfl) (d_frz (l_lst (a_cons (d_isX EF (by decide +kernel) rfl g.isinstance rfl (pv 0)) (a_cons (d_isX EF (by decide +kernel) rfl g.isinstance rfl (pv 0)) a_nil))))))
    (s_cons (s_asg (ps_set (i := 1) sc.nd rfl (Or.inl rfl) (d_bin op_addD (d_r (d_var (pv 1))) (d_r (d_frz (l_lst (a_cons (d_isX EF (by decide +kernel) rfl g.isinstance rfl (pv 0)) (a_cons (d_isX EF (by decide +kernel) rfl g.isinstance rfl (pv 0)) a_nil))))))))
    (s_cons (s_asg (ps_set (i := 1) sc.nd rfl (Or.inl rfl) (d_bin op_addD (d_r (d_var (pv 1))) (d_r (d_frz (l_lst (a_cons (d_isX EF (by decide +kernel) rfl g.isinstance rfl (pv 0)) (a_cons (d_isX EF (by decide +kernel) rfl g.isinstance rfl (pv 0)) a_nil))))))))
    (s_cons (s_asg (ps_set (i := 1) sc.nd rfl (Or.inl rfl) (d_bin op_addD (d_r (d_var (pv 1))) (d_r (d_frz (l_lst (a_cons (d_isX EF (by decide +kernel) rfl g.isinstance rfl (pv 0)) (a_cons (d_isX EF (by decide +kernel) rfl g.isinstance rfl (pv 0)) a_nil))))))))
    (s_cons (s_asg (ps_set (i := 1) sc.nd rfl (Or.inl rfl) (d_bin op_addD (d_r (d_var (pv 1))) (d_r (d_frz (l_lst (a_cons (d_isX EF (by decide +kernel) rfl g.isinstance rfl (pv 0)) (a_cons (d_isX EF (by decide +kernel) rfl g.isinstance rfl (pv 0)) a_nil))))))))
    (s_cons (s_asg (ps_set (i := 1) sc.nd rfl (Or.inl rfl) (d_bin op_addD (d_r (d_var (pv 1))) (d_r (d_frz (l_lst (a_cons (d_isX EF (by decide +kernel) rfl g.isinstance rfl (pv 0)) (a_cons (d_isX EF (by decide +kernel) rfl g.isinstance rfl (pv 0)) a_nil))))))))
    (s_cons (s_asg (ps_set (i := 1) sc.nd rfl (Or.inl rfl) (d_bin op_addD (d_r (d_var (pv 1))) (d_r (d_frz (l_lst (a_cons (d_isX EF (by decide +kernel) rfl g.isinstance rfl (pv 0)) a_nil)))))))
    (s_one (s_ret (d_if (c_cmp (op_eqQ hu) (d_r (d_count (d_var (pv 1)) d_bl)) (d_r d_int) (nomark _)) (d_index (d_var (pv 1)) d_bl) (d_un un_negD (d_r d_int)))))))))))))

theorem sc__law_raises : FnScope ["name", "names"] ["name"] (defScope (top 62)) := ⟨rfl, rfl, rfl, by decide +kernel, rfl, by decide +kernel, by decide +kernel⟩
theorem cal__law_raises {P : Program} {w : World} {K : PySem.W.Frag} {mg : Str → Option Value} {base : Heap} (g : Glob K mg) (F : ∃ f fd, FnP K "_law_raises" (top 62) f fd ∧ mg "_law_raises" = some (.ref f))  : CalP P w K mg base "_law_raises" 1 1 ["name"] F__law_raises := by
  obtain ⟨f, fd, F, hm⟩ := F
  refine ⟨f, fd, ?_, hm, F.kp, F.bindsN fun _ _ _ _ _ _ us hl => match us, hl with | [_], _ => rfl⟩
  have sc := sc__law_raises
  refine fn_P (toFun F) sc rfl fun cdv A outer s H E hr => ?_
  have hu := units64 hr
  have hu5 := units65 hr
  have hu1 := units1 hr
  exact (s_cons (s_asg (ps_set (i := 1) sc.nd rfl (Or.inl rfl) (d_frz (l_lst (a_cons d_str (a_cons d_str (a_cons d_str (a_cons d_str (a_cons d_str (a_cons d_str (a_cons d_str a_nil)))))))))))
    (s_cons (s_asg (ps_set (i := 1) sc.nd rfl (Or.inl rfl) (d_bin op_addD (d_r (d_var (pv 1))) (d_r (d_frz (l_lst (a_cons d_str (a_cons d_str (a_cons d_str (a_cons d_str (a_cons d_str (a_cons d_str a_nil))))))))))))
    (s_one (s_ret (d_tup (a_cons d_str (a_cons (d_index (d_var (pv 1)) (d_var (pv 0))) a_nil)))))))

theorem sc__law_frac : FnScope ["top", "bottom", "one", "other"] ["top", "bottom"] (defScope (top 63)) := ⟨rfl, rfl, rfl, by decide +kernel, rfl, by decide +kernel, by decide +kernel⟩
theorem cal__law_frac {P : Program} {w : World} {K : PySem.W.Frag} {mg : Str → Option Value} {base : Heap} (g : Glob K mg) (F : ∃ f fd, FnP K "_law_frac" (top 63) f fd ∧ mg "_law_frac" = some (.ref f))  : CalP P w K mg base "_law_frac" 1 2 ["top", "bottom"] F__law_frac := by
  obtain ⟨f, fd, F, hm⟩ := F
  refine ⟨f, fd, ?_, hm, F.kp, F.bindsN fun _ _ _ _ _ _ us hl => match us, hl with | [_, _], _ => rfl⟩
  have sc := sc__law_frac
  refine fn_P (toFun F) sc rfl fun cdv A outer s H E hr => ?_
  have hu := units64 hr
  have hu5 := units65 hr
  have hu1 := units1 hr
  exact (s_cons (s_par2 (ps_par (i := 2) (j := 3) rfl sc.nd rfl rfl (by decide) rfl rfl (m_d (d_var (pv 1)) (m_d (d_callB cb_abs rfl g.abs_ (by decide +kernel) (r_cons (d_r (d_var (pv 0))) r_nil)) m_nil)) rfl))
    (s_cons (s_while PassesOwn.never (c_cmp op_gtD (d_r (d_var (pv 3))) (d_r d_int) (nomark _)) (s_one (s_par2 (ps_par (i := 2) (j := 3) rfl sc.nd rfl rfl (by decide) rfl rfl (m_d (d_var (pv 3)) (m_d (d_bin op_modD (d_r (d_var (pv 2))) (d_r (d_var (pv 3)))) m_nil)) rfl))))
    (s_one (s_ret (d_tup (a_cons (d_bin op_fdivD (d_r (d_var (pv 0))) (d_r (d_var (pv 2)))) (a_cons (d_bin op_fdivD (d_r (d_var (pv 1))) (d_r (d_var (pv 2)))) a_nil)))))))

theorem sc__law_pairs : FnScope ["script", "town", "holders", "numbers", "some", "holder"] ["script", "town", "holders", "numbers"] (defScope (top 64)) := ⟨rfl, rfl, rfl, by decide +kernel, rfl, by decide +kernel, by decide +kernel⟩
theorem cal__law_pairs {P : Program} {w : World} {K : PySem.W.Frag} {mg : Str → Option Value} {base : Heap} (g : Glob K mg) (F : ∃ f fd, FnP K "_law_pairs" (top 64) f fd ∧ mg "_law_pairs" = some (.ref f)) (c__law_draw : CalT P w K mg base "_law_draw" 1 1 ["script", "town", "limit"] F__law_draw) (c__law_pick : CalT P w K mg base "_law_pick" 2 1 ["script", "town", "choices"] F__law_pick) : CalT P w K mg base "_law_pairs" 3 2 ["script", "town", "holders", "numbers"] F__law_pairs := by
  obtain ⟨f, fd, F, hm⟩ := F
  obtain ⟨f__law_draw, fd__law_draw, ok__law_draw, mg__law_draw, kp__law_draw, bd__law_draw⟩ := c__law_draw
  obtain ⟨f__law_pick, fd__law_pick, ok__law_pick, mg__law_pick, kp__law_pick, bd__law_pick⟩ := c__law_pick
  refine ⟨f, fd, ?_, hm, F.kp, F.bindsN fun _ _ _ _ _ _ us hl => match us, hl with | [_, _, _, _], _ => rfl⟩
  have sc := sc__law_pairs
  refine fn_T (toFun F) sc rfl fun cdv A outer s H E hr => ?_
  have hu := units64 hr
  have hu5 := units65 hr
  have hu1 := units1 hr
  exact (s_cons (s_asg (as_frz (as_comp (by decide) (ps_setLc (own := [("holder", 5)]) (i := 4) rfl sc.nd rfl rfl (sw_true rfl rfl rfl (by decide +kernel)) (i_rng rfl g.range_ (a_cons (d_var (pv 2)) a_nil)) (blkOk_by (own := [("holder", 5)]) (N := ["script", "town", "holders", "numbers", "some", "holder"]) (sc := defScope (top 64)) (by decide +kernel)) (fun _ _ _ _ _ => (g_name (pg_name (i := 5) sc.nd rfl (Or.inl rfl)))) (fun _ _ _ _ _ => (t_one (c_cmp (op_eqQ hu) (d_r (d_callT ok__law_draw (hr.mono (by decide : 1 ≤ 2)) rfl mg__law_draw kp__law_draw bd__law_draw (d_var (pv 0)) (pv 1) (a_cons d_int a_nil))) (d_r d_int) (nomark _)))) (fun _ _ _ _ _ => (d_var (pv 5)))))))
    (s_cons (s_if (c_cmp (op_eqQ hu) (d_r (d_var (pv 4))) (d_r (d_frz (l_lst a_nil))) (nomark _)) (s_one (s_asg (ps_set (i := 4) sc.nd rfl (Or.inl rfl) (d_frz (l_lst (a_cons (d_callT ok__law_draw (hr.mono (by decide : 1 ≤ 2)) rfl mg__law_draw kp__law_draw bd__law_draw (d_var (pv 0)) (pv 1) (a_cons (d_var (pv 2)) a_nil)) a_nil)))))) s_nil)
    (s_one (s_ret (d_callTy ct_tuple rfl g.tuple_ (by decide +kernel) (r_cons (d_r (d_frz (l_comp (own := [("holder", 5)]) rfl sc.nd (i_seq (d_var (pv 4))) (blkOk_by (own := [("holder", 5)]) (N := ["script", "town", "holders", "numbers", "some", "holder"]) (sc := defScope (top 64)) (by decide +kernel)) (fun _ _ _ _ _ => (g_name (pg_name (i := 5) sc.nd rfl (Or.inl rfl)))) (fun _ _ _ _ _ => t_yes) (fun _ _ _ _ _ => (d_tup (a_cons (d_var (pv 5)) (a_cons (d_callT ok__law_pick (hr.mono (by decide : 2 ≤ 2)) rfl mg__law_pick kp__law_pick bd__law_pick (d_var (pv 0)) (pv 1) (a_cons (d_var (pv 3)) a_nil)) a_nil)))) (by decide)))) r_nil))))))

theorem sc__law_rung : FnScope ["script", "town", "holders", "kind", "weights", "free", "caps", "holder", "weight"] ["script", "town", "holders", "kind"] (defScope (top 65)) := ⟨rfl, rfl, rfl, by decide +kernel, rfl, by decide +kernel, by decide +kernel⟩
theorem cal__law_rung {P : Program} {w : World} {K : PySem.W.Frag} {mg : Str → Option Value} {base : Heap} (g : Glob K mg) (F : ∃ f fd, FnP K "_law_rung" (top 65) f fd ∧ mg "_law_rung" = some (.ref f)) (c__law_pairs : CalT P w K mg base "_law_pairs" 3 2 ["script", "town", "holders", "numbers"] F__law_pairs) (c__law_pick : CalT P w K mg base "_law_pick" 2 1 ["script", "town", "choices"] F__law_pick) (c__law_draw : CalT P w K mg base "_law_draw" 1 1 ["script", "town", "limit"] F__law_draw) : CalT P w K mg base "_law_rung" 4 2 ["script", "town", "holders", "kind"] F__law_rung := by
  obtain ⟨f, fd, F, hm⟩ := F
  obtain ⟨f__law_pairs, fd__law_pairs, ok__law_pairs, mg__law_pairs, kp__law_pairs, bd__law_pairs⟩ := c__law_pairs
  obtain ⟨f__law_pick, fd__law_pick, ok__law_pick, mg__law_pick, kp__law_pick, bd__law_pick⟩ := c__law_pick
  obtain ⟨f__law_draw, fd__law_draw, ok__law_draw, mg__law_draw, kp__law_draw, bd__law_draw⟩ := c__law_draw
  refine ⟨f, fd, ?_, hm, F.kp, F.bindsN fun _ _ _ _ _ _ us hl => match us, hl with | [_, _, _, _], _ => rfl⟩
  have sc := sc__law_rung
  refine fn_T (toFun F) sc rfl fun cdv A outer s H E hr => ?_
  have hu := units64 hr
  have hu5 := units65 hr
  have hu1 := units1 hr
  exact (s_cons (s_if (c_cmp (op_eqQ hu) (d_r (d_var (pv 3))) (d_r d_int) (nomark _)) (s_one (s_ret (d_tup (a_cons d_str (a_cons (d_callT ok__law_pairs (hr.mono (by decide : 3 ≤ 3)) rfl mg__law_pairs kp__law_pairs bd__law_pairs (d_var (pv 0)) (pv 1) (a_cons (d_var (pv 2)) (a_cons (d_frz (l_lst (a_cons d_int (a_cons d_int (a_cons d_int (a_cons d_int (a_cons d_int (a_cons d_int (a_cons d_int (a_cons d_int a_nil)))))))))) a_nil))) a_nil))))) s_nil)
    (s_cons (s_asg (ps_set (i := 4) sc.nd rfl (Or.inl rfl) (d_callT ok__law_pairs (hr.mono (by decide : 3 ≤ 3)) rfl mg__law_pairs kp__law_pairs bd__law_pairs (d_var (pv 0)) (pv 1) (a_cons (d_var (pv 2)) (a_cons (d_frz (l_lst (a_cons d_int (a_cons d_int (a_cons d_int (a_cons d_int (a_cons d_int (a_cons d_int a_nil)))))))) a_nil)))))
    (s_cons (s_asg (ps_set (i := 5) sc.nd rfl (Or.inl rfl) (d_if (c_cmp (op_eqQ hu) (d_r (d_var (pv 3))) (d_r d_int) (nomark _)) (d_ix ix_D (d_r (d_callT ok__law_pick (hr.mono (by decide : 2 ≤ 3)) rfl mg__law_pick kp__law_pick bd__law_pick (d_var (pv 0)) (pv 1) (a_cons (d_var (pv 4)) a_nil))) (d_r d_int) (fun _ _ => rfl)) (d_un un_negD (d_r d_int)))))
    (s_cons (s_own (ps_set (i := 6) sc.nd rfl (Or.inl rfl) (l_lst a_nil)))
    (s_cons (s_for PassesOwn.never rfl (i_seq (d_var (pv 4))) (g_tup rfl (gs_cons (g_name (pg_name (i := 7) sc.nd rfl (Or.inl rfl))) (gs_cons (g_name (pg_name (i := 8) sc.nd rfl (Or.inl rfl))) gs_nil))) (s_one (s_if (PW.pt (c_and (c_cmp (op_neQ hu) (d_r (d_var (pv 7))) (d_r (d_var (pv 5))) (nomark _)) (c_and1 (c_cmp op_gtD (d_r (d_callT ok__law_draw (hr.mono (by decide : 1 ≤ 3)) rfl mg__law_draw kp__law_draw bd__law_draw (d_var (pv 0)) (pv 1) (a_cons d_int a_nil))) (d_r d_int) (nomark _))))) (s_one (s_app (ps_expr (pe_bm PySem.F.plainAttrs_list PySem.F.slot_list_append PySem.F.type_list_append mt_append (pv 6) (pa_cons (d_tup (a_cons (d_var (pv 7)) (a_cons (d_callT ok__law_pick (hr.mono (by decide : 2 ≤ 3)) rfl mg__law_pick kp__law_pick bd__law_pick (d_var (pv 0)) (pv 1) (a_cons (d_frz (l_lst (a_cons d_int (a_cons d_int (a_cons d_int (a_cons d_int (a_cons d_int (a_cons d_int (a_cons (d_bin op_mulD (d_r d_int) (d_r (d_var (pv 8)))) a_nil))))))))) a_nil)) a_nil))) pa_nil))))) s_nil)))
    (s_one (s_ret (d_tup (a_cons d_str (a_cons (d_var (pv 4)) (a_cons (d_callTy ct_tuple rfl g.tuple_ (by decide +kernel) (r_cons (d_bor (pv 6)) r_nil)) a_nil)))))))))))

theorem sc__law_ladder : FnScope ["script", "town", "most", "holders", "rungs", "k"] ["script", "town", "most"] (defScope (top 66)) := ⟨rfl, rfl, rfl, by decide +kernel, rfl, by decide +kernel, by decide +kernel⟩
theorem cal__law_ladder {P : Program} {w : World} {K : PySem.W.Frag} {mg : Str → Option Value} {base : Heap} (g : Glob K mg) (F : ∃ f fd, FnP K "_law_ladder" (top 66) f fd ∧ mg "_law_ladder" = some (.ref f)) (c__law_draw : CalT P w K mg base "_law_draw" 1 1 ["script", "town", "limit"] F__law_draw) (c__law_rung : CalT P w K mg base "_law_rung" 4 2 ["script", "town", "holders", "kind"] F__law_rung) : CalT P w K mg base "_law_ladder" 5 1 ["script", "town", "most"] F__law_ladder := by
  obtain ⟨f, fd, F, hm⟩ := F
  obtain ⟨f__law_draw, fd__law_draw, ok__law_draw, mg__law_draw, kp__law_draw, bd__law_draw⟩ := c__law_draw
  obtain ⟨f__law_rung, fd__law_rung, ok__law_rung, mg__law_rung, kp__law_rung, bd__law_rung⟩ := c__law_rung
  refine ⟨f, fd, ?_, hm, F.kp, F.bindsN fun _ _ _ _ _ _ us hl => match us, hl with | [_, _, _], _ => rfl⟩
  have sc := sc__law_ladder
  refine fn_T (toFun F) sc rfl fun cdv A outer s H E hr => ?_
  have hu := units64 hr
  have hu5 := units65 hr
  have hu1 := units1 hr
  exact (s_cons (s_asg (ps_set (i := 3) sc.nd rfl (Or.inr rfl) (d_bin op_addD (d_r d_int) (d_r (d_callT ok__law_draw (hr.mono (by decide : 1 ≤ 4)) rfl mg__law_draw kp__law_draw bd__law_draw (d_var (pv 0)) (pv 1) (a_cons (d_var (pv 2)) a_nil))))))
    (s_cons (s_asg (as_frz (as_comp (by decide) (ps_setLc (own := [("k", 5)]) (i := 4) rfl sc.nd rfl rfl (sw_true rfl rfl rfl (by decide +kernel)) (i_rng rfl g.range_ (a_cons (d_callT ok__law_draw (hr.mono (by decide : 1 ≤ 4)) rfl mg__law_draw kp__law_draw bd__law_draw (d_var (pv 0)) (pv 1) (a_cons d_int a_nil)) a_nil)) (blkOk_by (own := [("k", 5)]) (N := ["script", "town", "most", "holders", "rungs", "k"]) (sc := defScope (top 66)) (by decide +kernel)) (fun _ _ _ _ _ => (g_name (pg_name (i := 5) sc.nd rfl (Or.inl rfl)))) (fun _ _ _ _ _ => t_yes) (fun _ _ _ _ _ => (d_callT ok__law_rung (hr.mono (by decide : 4 ≤ 4)) rfl mg__law_rung kp__law_rung bd__law_rung (d_var (pv 0)) (pv 1) (a_cons (d_var (pv 3)) (a_cons (d_callT ok__law_draw (hr.mono (by decide : 1 ≤ 4)) rfl mg__law_draw kp__law_draw bd__law_draw (d_var (pv 0)) (pv 1) (a_cons d_int a_nil)) a_nil))))))))
    (s_one (s_ret (d_tup (a_cons (d_var (pv 3)) (a_cons (d_bin op_addD (d_r (d_callTy ct_tuple rfl g.tuple_ (by decide +kernel) (r_cons (d_r (d_var (pv 4))) r_nil))) (d_r (d_tup (a_cons (d_callT ok__law_rung (hr.mono (by decide : 4 ≤ 4)) rfl mg__law_rung kp__law_rung bd__law_rung (d_var (pv 0)) (pv 1) (a_cons (d_var (pv 3)) (a_cons d_int a_nil))) a_nil)))) a_nil)))))))

theorem sc_law : FnScope ["script", "town", "session", "k", "now", "text", "other", "way", "cut", "bad"] ["script"] (defScope (top 68)) := ⟨rfl, rfl, rfl, by decide +kernel, rfl, by decide +kernel, by decide +kernel⟩
theorem ok_law {P : Program} {w : World} {K : PySem.W.Frag} {mg : Str → Option Value} {base : Heap} {f : Addr} {fd : FuncData} (g : Glob K mg) (F : FnP K "law" (top 68) f fd) (sC : SesC K) (Sd : SesD K) (M___eq__ : ME P w K mg base 1) (M_init : MI P w K mg base 6 F_X_init) (M___str__ : MQ P w K mg base "__str__" 6 F_str) (M_load : MLd P w K mg base 12 F_load) (M_out : MO2 P w K mg base 14 (lcall2 F_X_undo F_X_redo) F__law_name) (M_outD : CalP P w K mg base "_law_outcome" 14 2 ["way", "arguments"] (outD F_load F__law_name)) (M_paid : MQ P w K mg base "paid" 10 F_paid) (M_put : MM P w K mg base "put" 11 1 ["self", "amount"] F_X_put) (M_save : MSv P w K mg base 4 F_save) (M_total : MQ P w K mg base "total" 5 F_total) (c__law_town : CalL P w K mg base "_law_town" 1 1 ["script"] F__law_town) (c__law_ladder : CalT P w K mg base "_law_ladder" 5 1 ["script", "town", "most"] F__law_ladder) (c__law_draw : CalT P w K mg base "_law_draw" 1 1 ["script", "town", "limit"] F__law_draw) (c__law_frac : CalP P w K mg base "_law_frac" 1 2 ["top", "bottom"] F__law_frac) (c__law_raises : CalP P w K mg base "_law_raises" 1 1 ["name"] F__law_raises) (c__law_pick : CalT P w K mg base "_law_pick" 2 1 ["script", "town", "choices"] F__law_pick) : FnOk P w K mg base CX0 15 f fd ["script"] (spP K 1 F_law) := by
  obtain ⟨f___eq__, fd___eq__, m___eq__, ok___eq__, bd___eq__⟩ := M___eq__
  obtain ⟨f_init, fd_init, mk_init, ok_init, mg_init, bd_init⟩ := M_init
  obtain ⟨f___str__, fd___str__, m___str__, ok___str__, bd___str__⟩ := M___str__
  obtain ⟨f_load, fd_load, ok_load, mg_load, kp_load, bd_load⟩ := M_load
  obtain ⟨f_out, fd_out, ok_out, mg_out, kp_out, bd_out⟩ := M_out
  obtain ⟨f_outD, fd_outD, ok_outD, mg_outD, kp_outD, bd_outD⟩ := M_outD
  obtain ⟨f_paid, fd_paid, m_paid, ok_paid, bd_paid⟩ := M_paid
  obtain ⟨f_put, fd_put, m_put, ok_put, bd_put⟩ := M_put
  obtain ⟨f_save, fd_save, ok_save, mg_save, kp_save, bd_save⟩ := M_save
  obtain ⟨f_total, fd_total, m_total, ok_total, bd_total⟩ := M_total
  obtain ⟨f__law_town, fd__law_town, ok__law_town, mg__law_town, kp__law_town, bd__law_town⟩ := c__law_town
  obtain ⟨f__law_ladder, fd__law_ladder, ok__law_ladder, mg__law_ladder, kp__law_ladder, bd__law_ladder⟩ := c__law_ladder
  obtain ⟨f__law_draw, fd__law_draw, ok__law_draw, mg__law_draw, kp__law_draw, bd__law_draw⟩ := c__law_draw
  obtain ⟨f__law_frac, fd__law_frac, ok__law_frac, mg__law_frac, kp__law_frac, bd__law_frac⟩ := c__law_frac
  obtain ⟨f__law_raises, fd__law_raises, ok__law_raises, mg__law_raises, kp__law_raises, bd__law_raises⟩ := c__law_raises
  obtain ⟨f__law_pick, fd__law_pick, ok__law_pick, mg__law_pick, kp__law_pick, bd__law_pick⟩ := c__law_pick
  have sc := sc_law
  refine fn_P (toFun F) sc rfl fun cdv A outer s H E hr => ?_
  have hu := units64 hr
  have hu5 := units65 hr
  have hu1 := units1 hr
  exact (s_cons (s_town (ps_set (i := 1) sc.nd rfl (Or.inl rfl) (l_call ok__law_town (hr.mono (by decide : 1 ≤ 14)) rfl mg__law_town kp__law_town bd__law_town (a_cons (d_var (pv 0)) a_nil))))
    (s_cons (s_newS (ps_set (i := 2) sc.nd rfl (Or.inl rfl) (e_newS mk_init ok_init (hr.mono (by decide : 7 ≤ 14)) rfl mg_init bd_init tk0 (d_callT ok__law_ladder (hr.mono (by decide : 5 ≤ 14)) rfl mg__law_ladder kp__law_ladder bd__law_ladder (d_var (pv 0)) (pv 1) (a_cons d_int a_nil)))))
    (s_cons (s_for PassesOwn.never rfl (i_rng rfl g.range_ (a_cons (d_callT ok__law_draw (hr.mono (by decide : 1 ≤ 14)) rfl mg__law_draw kp__law_draw bd__law_draw (d_var (pv 0)) (pv 1) (a_cons d_int a_nil)) a_nil)) (g_name (pg_name (i := 3) sc.nd rfl (Or.inl rfl))) (s_one (s_exprX (x_meth sC m_put nf_put ok_put (hr.mono (by decide : 11 ≤ 14)) bd_put tk0 (pv 2) (a_cons (d_call ok__law_frac (hr.mono (by decide : 1 ≤ 14)) rfl mg__law_frac kp__law_frac bd__law_frac (a_cons (d_callT ok__law_draw (hr.mono (by decide : 1 ≤ 14)) rfl mg__law_draw kp__law_draw bd__law_draw (d_var (pv 0)) (pv 1) (a_cons d_int a_nil)) (a_cons (d_callT ok__law_pick (hr.mono (by decide : 2 ≤ 14)) rfl mg__law_pick kp__law_pick bd__law_pick (d_var (pv 0)) (pv 1) (a_cons (d_frz (l_lst (a_cons d_int (a_cons d_int (a_cons d_int (a_cons d_int a_nil)))))) a_nil)) a_nil))) a_nil)))))
    (s_cons (s_for PassesOwn.never rfl (i_rng rfl g.range_ (a_cons (d_callT ok__law_draw (hr.mono (by decide : 1 ≤ 14)) rfl mg__law_draw kp__law_draw bd__law_draw (d_var (pv 0)) (pv 1) (a_cons d_int a_nil)) a_nil)) (g_name (pg_name (i := 3) sc.nd rfl (Or.inl rfl))) (s_one (s_exprX (x_out1 ok_out (hr.mono (by decide : 14 ≤ 14)) rfl mg_out kp_out bd_out d_int (pv 2)))))
    (s_cons (s_asg (ps_set (i := 4) sc.nd rfl (Or.inl rfl) (d_tup (a_cons (d_query sC m_total nf_total ok_total (hr.mono (by decide : 5 ≤ 14)) bd_total (pv 2)) (a_cons (d_query sC m_paid nf_paid ok_paid (hr.mono (by decide : 10 ≤ 14)) bd_paid (pv 2)) a_nil)))))
    (s_cons (s_asg (ps_set (i := 5) sc.nd rfl (Or.inl rfl) (d_fnQ ok_save (hr.mono (by decide : 4 ≤ 14)) rfl mg_save kp_save bd_save (pv 2))))
    (s_cons (s_if (PW.pt (c_or (c_not (c_val (d_isi rfl g.isinstance rfl g.str_ (by decide +kernel) (d_r (d_var (pv 5)))))) (c_or1 (c_cmp (op_neQ hu) (d_r (d_tup (a_cons (d_query sC m_total nf_total ok_total (hr.mono (by decide : 5 ≤ 14)) bd_total (pv 2)) (a_cons (d_query sC m_paid nf_paid ok_paid (hr.mono (by decide : 10 ≤ 14)) bd_paid (pv 2)) a_nil)))) (d_r (d_var (pv 4))) (nomark _))))) (s_one (s_ret d_bl)) s_nil)
    (s_cons (s_newS (ps_set (i := 6) sc.nd rfl (Or.inl rfl) (e_load ok_load (hr.mono (by decide : 12 ≤ 14)) rfl mg_load kp_load bd_load tk0 (d_var (pv 5)))))
    (s_cons (s_if (PW.pt (c_or (c_neSS m___eq__ Sd ok___eq__ (hr.mono (by decide : 2 ≤ 14)) bd___eq__ (pv 6) (pv 2) (nomark _)) (c_or (c_cmp (op_neQ hu) (d_r (d_tup (a_cons (d_query sC m_total nf_total ok_total (hr.mono (by decide : 5 ≤ 14)) bd_total (pv 6)) (a_cons (d_query sC m_paid nf_paid ok_paid (hr.mono (by decide : 10 ≤ 14)) bd_paid (pv 6)) a_nil)))) (d_r (d_var (pv 4))) (nomark _)) (c_or1 (c_cmp (op_neQ hu) (d_r (d_strS m___str__ ok___str__ (hr.mono (by decide : 8 ≤ 14)) bd___str__ rfl g.str_ (pv 6))) (d_r (d_strS m___str__ ok___str__ (hr.mono (by decide : 8 ≤ 14)) bd___str__ rfl g.str_ (pv 2))) (nomark _)))))) (s_one (s_ret d_bl)) s_nil)
    (s_cons (s_for PassesOwn.never rfl (i_seq (d_bin op_addD (d_r (d_bin op_addD (d_r (d_bin op_mulD (d_r (d_frz (l_lst (a_cons d_int a_nil)))) (d_r d_int))) (d_r (d_bin op_mulD (d_r (d_frz (l_lst (a_cons d_int a_nil)))) (d_r d_int))))) (d_r (d_bin op_mulD (d_r (d_frz (l_lst (a_cons d_int a_nil)))) (d_r d_int))))) (g_name (pg_name (i := 7) sc.nd rfl (Or.inl rfl))) (s_one (s_ifX (PW.pt (x_or (x_cmp (op_neQ hu) (x_out1 ok_out (hr.mono (by decide : 14 ≤ 14)) rfl mg_out kp_out bd_out (d_var (pv 7)) (pv 2)) (x_out1 ok_out (hr.mono (by decide : 14 ≤ 14)) rfl mg_out kp_out bd_out (d_var (pv 7)) (pv 6)) (nomark _)) (x_wpure (c_or1 (c_cmp (op_neQ hu) (d_r (d_query sC m_paid nf_paid ok_paid (hr.mono (by decide : 10 ≤ 14)) bd_paid (pv 2))) (d_r (d_query sC m_paid nf_paid ok_paid (hr.mono (by decide : 10 ≤ 14)) bd_paid (pv 6))) (nomark _)))))) (s_one (s_ret d_bl)) s_nil)))
    (s_cons (s_for PassesOwn.never rfl (i_rng rfl g.range_ (a_cons d_int a_nil)) (g_name (pg_name (i := 3) sc.nd rfl (Or.inl rfl))) (s_cons (s_asg (ps_set (i := 8) sc.nd rfl (Or.inl rfl) (d_bin op_addD (d_r d_int) (d_r (d_callT ok__law_draw (hr.mono (by decide : 1 ≤ 14)) rfl mg__law_draw kp__law_draw bd__law_draw (d_var (pv 0)) (pv 1) (a_cons (d_callB cb_len rfl g.len_ (by decide +kernel) (r_cons (d_r (d_var (pv 5))) r_nil)) a_nil))))))
    (s_one (s_if (c_cmp (op_neQ hu) (d_r (d_call ok_outD (hr.mono (by decide : 14 ≤ 14)) rfl mg_outD kp_outD bd_outD (a_cons d_int (a_cons (d_slice (d_r (d_var (pv 5))) o_none (o_some (d_bin op_subD (d_r (d_callB cb_len rfl g.len_ (by decide +kernel) (r_cons (d_r (d_var (pv 5))) r_nil))) (d_r (d_var (pv 8)))))) a_nil)))) (d_r (d_call ok__law_raises (hr.mono (by decide : 1 ≤ 14)) rfl mg__law_raises kp__law_raises bd__law_raises (a_cons d_str a_nil))) (nomark _)) (s_one (s_ret d_bl)) s_nil))))
    (s_one (s_ret (d_cmp (op_eqQ hu) (d_r (d_frz (l_comp (own := [("bad", 9)]) rfl sc.nd (i_seq (d_tup (a_cons d_non (a_cons d_int (a_cons d_bl (a_cons (d_frz (l_lst (a_cons (d_var (pv 5)) a_nil))) (a_cons (d_tup (a_cons (d_var (pv 5)) a_nil)) a_nil))))))) (blkOk_by (own := [("bad", 9)]) (N := ["script", "town", "session", "k", "now", "text", "other", "way", "cut", "bad"]) (sc := defScope (top 68)) (by decide +kernel)) (fun _ _ _ _ _ => (g_name (pg_name (i := 9) sc.nd rfl (Or.inl rfl)))) (fun _ _ _ _ _ => t_yes) (fun _ _ _ _ _ => (d_call ok_outD (hr.mono (by decide : 14 ≤ 14)) rfl mg_outD kp_outD bd_outD (a_cons d_int (a_cons (d_var (pv 9)) a_nil)))) (by decide)))) (d_r (d_bin op_mulD (d_r (d_frz (l_lst (a_cons (d_call ok__law_raises (hr.mono (by decide : 1 ≤ 14)) rfl mg__law_raises kp__law_raises bd__law_raises (a_cons d_str a_nil)) a_nil)))) (d_r d_int))) (nomark _)))))))))))))))

theorem sc_X_check_ladder : FnScope ["value"] ["value"] (defScope (top 32)) := ⟨rfl, rfl, rfl, by decide +kernel, rfl, by decide +kernel, by decide +kernel⟩
theorem cal_X_check_ladder {P : Program} {w : World} {K : PySem.W.Frag} {mg : Str → Option Value} {base : Heap} (g : Glob K mg) (F : ∃ f fd, FnP K "check_ladder" (top 32) f fd ∧ mg "check_ladder" = some (.ref f)) (EF : ExF K mg) (c_is_ladder : CalP P w K mg base "is_ladder" 4 1 ["value"] F_is_ladder) : CalX P w K mg base "check_ladder" 5 1 ["value"] F_X_check_ladder := by
  obtain ⟨f, fd, F, hm⟩ := F
  obtain ⟨f_is_ladder, fd_is_ladder, ok_is_ladder, mg_is_ladder, kp_is_ladder, bd_is_ladder⟩ := c_is_ladder
  refine ⟨f, fd, ?_, hm, F.kp, F.bindsN fun _ _ _ _ _ _ us hl => match us, hl with | [_], _ => rfl⟩
  have sc := sc_X_check_ladder
  refine fn_X (toFun F) sc rfl fun cdv A outer s H E hr => ?_
  have hu := units64 hr
  have hu5 := units65 hr
  have hu1 := units1 hr
  exact (s_one (s_if (c_not (c_val (d_call ok_is_ladder (hr.mono (by decide : 4 ≤ 4)) rfl mg_is_ladder kp_is_ladder bd_is_ladder (a_cons (d_var (pv 0)) a_nil)))) (s_one (s_raise rfl tkOf (EF.oe "InvalidLadder" (by decide +kernel)) rfl)) s_nil))

theorem sc_X_check_amount : FnScope ["value"] ["value"] (defScope (top 34)) := ⟨rfl, rfl, rfl, by decide +kernel, rfl, by decide +kernel, by decide +kernel⟩
theorem cal_X_check_amount {P : Program} {w : World} {K : PySem.W.Frag} {mg : Str → Option Value} {base : Heap} (g : Glob K mg) (F : ∃ f fd, FnP K "check_amount" (top 34) f fd ∧ mg "check_amount" = some (.ref f)) (EF : ExF K mg) (c_is_amount : CalP P w K mg base "is_amount" 2 1 ["value"] F_is_amount) : CalX P w K mg base "check_amount" 3 1 ["value"] F_X_check_amount := by
  obtain ⟨f, fd, F, hm⟩ := F
  obtain ⟨f_is_amount, fd_is_amount, ok_is_amount, mg_is_amount, kp_is_amount, bd_is_amount⟩ := c_is_amount
  refine ⟨f, fd, ?_, hm, F.kp, F.bindsN fun _ _ _ _ _ _ us hl => match us, hl with | [_], _ => rfl⟩
  have sc := sc_X_check_amount
  refine fn_X (toFun F) sc rfl fun cdv A outer s H E hr => ?_
  have hu := units64 hr
  have hu5 := units65 hr
  have hu1 := units1 hr
  exact (s_one (s_if (c_not (c_val (d_call ok_is_amount (hr.mono (by decide : 2 ≤ 2)) rfl mg_is_amount kp_is_amount bd_is_amount (a_cons (d_var (pv 0)) a_nil)))) (s_one (s_raise rfl tkOf (EF.oe "InvalidAmount" (by decide +kernel)) rfl)) s_nil))

theorem sc_X_parse_ladder : FnScope ["text", "sides", "found", "part"] ["text"] (defScope (top 52)) := ⟨rfl, rfl, rfl, by decide +kernel, rfl, by decide +kernel, by decide +kernel⟩
theorem cal_X_parse_ladder {P : Program} {w : World} {K : PySem.W.Frag} {mg : Str → Option Value} {base : Heap} (g : Glob K mg) (F : ∃ f fd, FnP K "parse_ladder" (top 52) f fd ∧ mg "parse_ladder" = some (.ref f)) (EF : ExF K mg) (c_number_of : CalP P w K mg base "number_of" 1 1 ["word"] F_number_of) (c_is_ladder : CalP P w K mg base "is_ladder" 4 1 ["value"] F_is_ladder) (c_ladder_text : CalP P w K mg base "ladder_text" 3 1 ["ladder"] F_ladder_text) (c_read_rung : CalP P w K mg base "read_rung" 3 1 ["text"] F_read_rung) : CalX P w K mg base "parse_ladder" 5 1 ["text"] F_X_parse_ladder := by
  obtain ⟨f, fd, F, hm⟩ := F
  obtain ⟨f_number_of, fd_number_of, ok_number_of, mg_number_of, kp_number_of, bd_number_of⟩ := c_number_of
  obtain ⟨f_is_ladder, fd_is_ladder, ok_is_ladder, mg_is_ladder, kp_is_ladder, bd_is_ladder⟩ := c_is_ladder
  obtain ⟨f_ladder_text, fd_ladder_text, ok_ladder_text, mg_ladder_text, kp_ladder_text, bd_ladder_text⟩ := c_ladder_text
  obtain ⟨f_read_rung, fd_read_rung, ok_read_rung, mg_read_rung, kp_read_rung, bd_read_rung⟩ := c_read_rung
  refine ⟨f, fd, ?_, hm, F.kp, F.bindsN fun _ _ _ _ _ _ us hl => match us, hl with | [_], _ => rfl⟩
  have sc := sc_X_parse_ladder
  refine fn_X (toFun F) sc rfl fun cdv A outer s H E hr => ?_
  have hu := units64 hr
  have hu5 := units65 hr
  have hu1 := units1 hr
  exact (s_cons (s_if (c_not (c_val (d_isi rfl g.isinstance rfl g.str_ (by decide +kernel) (d_r (d_var (pv 0)))))) (s_one (s_raise rfl tkOf (EF.oe "InvalidText" (by decide +kernel)) rfl)) s_nil)
    (s_cons (s_asg (ps_set (i := 1) sc.nd rfl (Or.inl rfl) (d_frz (l_split (d_var (pv 0)) d_str))))
    (s_cons (s_asg (ps_set (i := 2) sc.nd rfl (Or.inl rfl) (d_tup (a_cons (d_call ok_number_of (hr.mono (by decide : 1 ≤ 4)) rfl mg_number_of kp_number_of bd_number_of (a_cons (d_ix ix_D (d_r (d_var (pv 1))) (d_r d_int) (fun _ _ => rfl)) a_nil)) (a_cons (d_callTy ct_tuple rfl g.tuple_ (by decide +kernel) (r_cons (d_r (d_frz (l_comp (own := [("part", 3)]) rfl sc.nd (i_seq (d_frz (l_split (d_ix ix_D (d_r (d_var (pv 1))) (d_r (d_un un_negD (d_r d_int))) (fun _ _ => rfl)) d_str))) (blkOk_by (own := [("part", 3)]) (N := ["text", "sides", "found", "part"]) (sc := defScope (top 52)) (by decide +kernel)) (fun _ _ _ _ _ => (g_name (pg_name (i := 3) sc.nd rfl (Or.inl rfl)))) (fun _ _ _ _ _ => t_yes) (fun _ _ _ _ _ => (d_call ok_read_rung (hr.mono (by decide : 3 ≤ 4)) rfl mg_read_rung kp_read_rung bd_read_rung (a_cons (d_var (pv 3)) a_nil))) (by decide)))) r_nil)) a_nil)))))
    (s_cons (s_if (PW.pt (c_or (c_not (c_val (d_call ok_is_ladder (hr.mono (by decide : 4 ≤ 4)) rfl mg_is_ladder kp_is_ladder bd_is_ladder (a_cons (d_var (pv 2)) a_nil)))) (c_or1 (c_cmp (op_neQ hu) (d_r (d_call ok_ladder_text (hr.mono (by decide : 3 ≤ 4)) rfl mg_ladder_text kp_ladder_text bd_ladder_text (a_cons (d_var (pv 2)) a_nil))) (d_r (d_var (pv 0))) (nomark _))))) (s_one (s_raise rfl tkOf (EF.oe "InvalidText" (by decide +kernel)) rfl)) s_nil)
    (s_one (s_ret (d_var (pv 2))))))))

end Sx

namespace Sx
open PySem PySem.Spec PyProof.Rows L2 Mx TL
abbrev P62 (ns : List Int) (x2 x3 x4 x5 x6 x7 x8 x9 : Option SV) : Sl := [some (.d (scD ns)), some .town, x2, x3, x4, x5, x6, x7, x8, x9]
theorem ra_text : F__law_raises [.str "text"] = .ok (.tuple [.str "raised", .int 7]) := by kernel_rfl
theorem nm_text : F__law_name "InvalidText" = .ok (.int 7) := by kernel_rfl
theorem in_text : ("InvalidText" : Str) ∈ excN := by decide +kernel
theorem set_self {ρ : Sl} {i : Nat} {x : Option SV} (h : ρ[i]? = some x) : ρ.set i x = ρ := by
  obtain ⟨hi, e⟩ := List.getElem?_eq_some_iff.mp h
  rw [← e]
  exact List.set_getElem_self hi
/-! ### undo, redo -/
section
variable {Fs : Int → Dt → List Dt → List Dt → Res (Dt × SV)} {Fn : Str → Res Dt} {f1 : SE} {ρ : Sl} {W : Tw} {i : Nat} {w : Int} {L r d : Dt} {D U : List Dt} {sv : SV} {c : Str}
theorem x1_ok (h1 : f1 ρ W = .ok (.int w, W)) (hi : ρ[i]? = some (some (.se L D U))) (hF : Fs w L D U = .ok (r, sv)) : xOut1 i Fs Fn f1 ρ W = .ok (.tuple [.str "returned", r], ρ.set i (some sv), W) := by
  unfold xOut1
  rw [h1]
  show (match ρ[i]? with | some (some (.se L D U)) => _ | _ => _) = _
  rw [hi]
  simp only
  rw [hF]
theorem x1_exc (h1 : f1 ρ W = .ok (.int w, W)) (hi : ρ[i]? = some (some (.se L D U))) (hF : Fs w L D U = .exc c) (hm : c ∈ excN) (hN : Fn c = .ok d) : xOut1 i Fs Fn f1 ρ W = .ok (.tuple [.str "raised", d], ρ.set i (some (.se L D U)), W) := by
  unfold xOut1
  rw [h1]
  show (match ρ[i]? with | some (some (.se L D U)) => _ | _ => _) = _
  rw [hi]
  simp only
  rw [hF]
  simp only
  rw [if_pos hm, hN, set_self hi]
end
theorem lcz {L : Dt} {D U : List Dt} : lcall2 F_X_undo F_X_redo 0 L D U = F_X_undo L D U [] := rfl
theorem lco {L : Dt} {D U : List Dt} : lcall2 F_X_undo F_X_redo 1 L D U = F_X_redo L D U [] := rfl
theorem ne_retd {q : Rat} : neD (.tuple [.str "returned", fr q]) (.tuple [.str "returned", fr q]) = some (.bool false) := Gq.ne (k := 6) (.tup (.cons ⟨by decide +kernel, Nat.zero_le _, by decide +kernel⟩ (.cons .fr .nil))) (by decide)
/-- undoing or redoing -/
def Turn (L : Dt) (w : Int) (qs us : List Rat) (o : Dt) (qs' us' : List Rat) : Prop := ∀ (i : Nat) (f1 : SE) (ρ : Sl) (W : Tw), f1 ρ W = .ok (.int w, W) → ρ[i]? = some (some (.se L (qs.map fr) (us.map fr))) →
  xOut1 i (lcall2 F_X_undo F_X_redo) F__law_name f1 ρ W = .ok (o, ρ.set i (some (.se L (qs'.map fr) (us'.map fr))), W)
theorem turn62 {L : Dt} {w : Int} {qs us : List Rat} (hw : w = 0 ∨ w = 1) (hl : qs.length + us.length ≤ 10) (A : A20 qs) (B : A20 us) : ∃ (o : Dt) (qs' us' : List Rat), A20 qs' ∧ A20 us' ∧ qs'.length + us'.length ≤ 10 ∧ neD o o = some (.bool false) ∧ Turn L w qs us o qs' us' := by
  rcases hw with rfl | rfl
  · rcases List.eq_nil_or_concat qs with rfl | ⟨qs, q, rfl⟩
    · refine ⟨.tuple [.str "raised", .int 12], [], us, A, B, hl, raised 12, fun i f1 ρ W h1 hi => ?_⟩
      exact x1_exc h1 hi (by rw [lcz]; exact undo_none) in_undo nm_undo
    · rw [List.concat_eq_append] at *
      obtain ⟨A1, A2⟩ := A.left
      refine ⟨.tuple [.str "returned", fr q], qs, us ++ [q], A1, B.snoc A2, by simp at hl ⊢; omega, ne_retd, fun i f1 ρ W h1 hi => ?_⟩
      exact x1_ok h1 hi (by rw [lcz]; exact undo_some (by omega))
  · rcases List.eq_nil_or_concat us with rfl | ⟨us, q, rfl⟩
    · refine ⟨.tuple [.str "raised", .int 12], qs, [], A, B, hl, raised 12, fun i f1 ρ W h1 hi => ?_⟩
      exact x1_exc h1 hi (by rw [lco]; exact redo_none) in_undo nm_undo
    · rw [List.concat_eq_append] at *
      obtain ⟨B1, B2⟩ := B.left
      refine ⟨.tuple [.str "returned", fr q], qs ++ [q], us, A.snoc B2, B1, by simp at hl ⊢; omega, ne_retd, fun i f1 ρ W h1 hi => ?_⟩
      exact x1_ok h1 hi (by rw [lco]; exact redo_some (by omega))
section
variable {ns : List Int} {W : Tw} {x2 x3 x4 x5 x6 x7 x8 x9 : Option SV}
/-! ### amounts -/
theorem st_put1 {Fp : Dt → List Dt → List Dt → List Dt → Res (Dt × SV)} {Fd Fq : List Dt → List Dt → Res (Dt × List Dt)} {Fr : List Dt → Res Dt} {ws ws1 ws2 : List Dt} {L Z B A R : Dt} {D U : List Dt} {sv : SV} (e1 : Fd [scD ns, .int 400] ws = .ok (Z, ws1)) (e2 : Fq [scD ns, .list [.int 1, .int 2, .int 4, .int 5]] ws1 = .ok (B, ws2)) (e3 : Fr [Z, B] = .ok A) (hp : Fp L D U [A] = .ok (R, sv)) :
    sExprX (xMeth 2 1 Fp (aCons (eCall 2 Fr (aCons (eCallT 1 Fd (eVar 0) 1 (aCons (eC (.int 400)) aNil)) (aCons (eCallT 1 Fq (eVar 0) 1 (aCons (eFrz (lLst (aCons (eC (.int 1)) (aCons (eC (.int 2)) (aCons (eC (.int 4)) (aCons (eC (.int 5)) aNil)))))) aNil)) aNil))) aNil))
      (P62 ns (some (.se L D U)) x3 x4 x5 x6 x7 x8 x9) (some ws) = .nx (P62 ns (some sv) x3 x4 x5 x6 x7 x8 x9) (some ws2) := by
  simp [sExprX, xMeth, P62, e1, e2, e3, hp]
theorem put_turn62 {l : Lad} {qs us : List Rat} (hl : ns.length ≤ 63) (k : l.Ok) (hq : qs.length ≤ 90) (A : A20 qs) {m : Nat} {ws : List Dt} (t : Tn ns (m + 2) ws) : ∃ (q : Rat) (ws' : List Dt), T20 8000 q ∧ Tn ns m ws' ∧
    lB_law_1 (P62 ns (some (.se (ld l) (qs.map fr) (us.map fr))) x3 x4 x5 x6 x7 x8 x9) (some ws) = .nx (P62 ns (some (.se (ld l) ((qs ++ [q]).map fr) [])) x3 x4 x5 x6 x7 x8 x9) (some ws') := by
  obtain ⟨d, ws1, e1, hd, t1⟩ := draw_ok (ns := ns) (L := 400) (m := m + 1) hl (by decide) (by decide) t
  obtain ⟨b, ws2, e2, hb, t2⟩ := pick_nat (ns := ns) (nums := [1, 2, 4, 5]) (m := m) hl (by decide) (by decide) t1
  have e1 : F__law_draw [scD ns, .int 400] ws = .ok (.int (d : Int), ws1) := e1
  have e2 : F__law_pick [scD ns, .list [.int 1, .int 2, .int 4, .int 5]] ws1 = .ok (.int (b : Int), ws2) := e2
  have hb : b = 1 ∨ b = 2 ∨ b = 4 ∨ b = 5 := by simpa using hb
  have hT := frac20 hd hb
  have e3 := lfrac_ok (a := (d : Int)) (b := b) (by omega) (Nat.lt_of_le_of_lt (show b ≤ 5 by omega) (Nat.lt_of_lt_of_le (show 5 < 2 ^ 3 by decide) (Nat.pow_le_pow_right (by decide) (by decide))))
  obtain ⟨q, hqe⟩ : ∃ q, q = mkRat (d : Int) b := ⟨_, rfl⟩
  rw [← hqe] at e3 hT
  have A' := A.snoc hT
  have hlen : (qs ++ [q]).length ≤ 100 := by simp; omega
  have hp := put_sX (U := us.map fr) k (ses20 A (by omega)) (ses20 A' hlen) (hT.amt (by decide)) ((sum20 A').amt (by omega)) (by omega)
  exact ⟨q, ws2, hT, t2, st_put1 e1 e2 e3 hp⟩
theorem put_loop62 {l : Lad} (hl : ns.length ≤ 63) (k : l.Ok) : ∀ (ds : List Nat) (qs : List Rat) (x3 : Option SV) (m : Nat) (ws : List Dt), A20 qs → qs.length + ds.length ≤ 10 → Tn ns (m + 2 * ds.length) ws → ∃ (qs' : List Rat) (y3 : Option SV) (ws' : List Dt), A20 qs' ∧ qs'.length ≤ qs.length + ds.length ∧ Tn ns m ws' ∧
    fL (gN 3) lB_law_1 (ds.map iD) (P62 ns (some (.se (ld l) (qs.map fr) [])) x3 x4 x5 x6 x7 x8 x9) (some ws) = .nx (P62 ns (some (.se (ld l) (qs'.map fr) [])) y3 x4 x5 x6 x7 x8 x9) (some ws')
  | [], qs, x3, m, ws, A, hq, t => ⟨qs, x3, ws, A, Nat.le_refl _, t, rfl⟩
  | d :: ds, qs, x3, m, ws, A, hq, t => by
    rw [List.length_cons] at hq
    obtain ⟨q, ws1, hT, t1, e⟩ := put_turn62 (x3 := some (.d (iD d))) (x4 := x4) (x5 := x5) (x6 := x6) (x7 := x7) (x8 := x8) (x9 := x9) (us := []) hl k (by omega) A (m := m + 2 * ds.length) (t.mono (by rw [List.length_cons]; omega))
    obtain ⟨qs', y3, ws', A', hl', t', ih⟩ := put_loop62 hl k ds (qs ++ [q]) (some (.d (iD d))) m ws1 (A.snoc hT) (by simp; omega) t1
    refine ⟨qs', y3, ws', A', by simp at hl' ⊢; omega, t', ?_⟩
    rw [List.map_cons, fL_step (ρ1 := P62 ns (some (.se (ld l) (qs.map fr) [])) (some (.d (iD d))) x4 x5 x6 x7 x8 x9) rfl e]
    exact ih
/-! ### some undone -/
theorem undo_loop62 {L : Dt} : ∀ (ds : List Dt) (qs us : List Rat) (x3 : Option SV), A20 qs → A20 us → qs.length + us.length ≤ 10 → ∃ (qs' us' : List Rat) (y3 : Option SV), A20 qs' ∧ A20 us' ∧ qs'.length + us'.length ≤ 10 ∧
    fL (gN 3) lB_law_2 ds (P62 ns (some (.se L (qs.map fr) (us.map fr))) x3 x4 x5 x6 x7 x8 x9) W = .nx (P62 ns (some (.se L (qs'.map fr) (us'.map fr))) y3 x4 x5 x6 x7 x8 x9) W
  | [], qs, us, x3, A, B, hl => ⟨qs, us, x3, A, B, hl, rfl⟩
  | d :: ds, qs, us, x3, A, B, hl => by
    obtain ⟨o, qs1, us1, A1, B1, l1, _, T⟩ := turn62 (L := L) (w := 0) (.inl rfl) hl A B
    obtain ⟨qs', us', y3, A', B', l', ih⟩ := undo_loop62 ds qs1 us1 (some (.d d)) A1 B1 l1
    refine ⟨qs', us', y3, A', B', l', ?_⟩
    have e : lB_law_2 (P62 ns (some (.se L (qs.map fr) (us.map fr))) (some (.d d)) x4 x5 x6 x7 x8 x9) W = .nx (P62 ns (some (.se L (qs1.map fr) (us1.map fr))) (some (.d d)) x4 x5 x6 x7 x8 x9) W := by
      have := T 2 (eC (.int 0)) (P62 ns (some (.se L (qs.map fr) (us.map fr))) (some (.d d)) x4 x5 x6 x7 x8 x9) W rfl rfl
      unfold lB_law_2 sExprX
      rw [this]
      rfl
    rw [fL_step (ρ1 := P62 ns (some (.se L (qs.map fr) (us.map fr))) (some (.d d)) x4 x5 x6 x7 x8 x9) rfl e]
    exact ih
/-! ### both sessions undone and redone -/
theorem st_both {X1 X2 : SX} {Fp : Dt → List Dt → List Dt → Res Dt} {L o Z : Dt} {D' U' : List Dt} {ρ : Sl}
    (h1 : X1 ρ W = .ok (o, ρ.set 2 (some (.se L D' U')), W)) (h2 : X2 (ρ.set 2 (some (.se L D' U'))) W = .ok (o, (ρ.set 2 (some (.se L D' U'))).set 6 (some (.se L D' U')), W)) (n1 : neD o o = some (.bool false))
    (hl : ρ.length = 10) (hp : Fp L D' U' = .ok Z) (n2 : neD Z Z = some (.bool false)) :
    sIfX (xbOr (xbOf (xBin neD X1 X2)) (xbP (bOf (eBin neD (eQ 2 Fp) (eQ 6 Fp))))) (sRet (eC (.bool false))) sPass ρ W = .nx ((ρ.set 2 (some (.se L D' U'))).set 6 (some (.se L D' U'))) W := by
  have e2 : ((ρ.set 2 (some (SV.se L D' U'))).set 6 (some (.se L D' U')))[2]? = some (some (.se L D' U')) := by
    rw [List.getElem?_set_ne (by decide), List.getElem?_set_self (by omega)]
  have e6 : ((ρ.set 2 (some (SV.se L D' U'))).set 6 (some (.se L D' U')))[6]? = some (some (.se L D' U')) := by
    rw [List.getElem?_set_self (by rw [List.length_set]; omega)]
  generalize (ρ.set 2 (some (SV.se L D' U'))).set 6 (some (.se L D' U')) = ρ2 at *
  generalize ρ.set 2 (some (SV.se L D' U')) = ρ1 at *
  simp [sIfX, xbOr, xbOf, xBin, xbP, h1, h2, n1, eQ, e2, e6, hp, n2]
theorem ways_loop {l : Lad} (k : l.Ok) : ∀ (ds : List Int) (qs us : List Rat) (x7 : Option SV), (∀ d ∈ ds, d = 0 ∨ d = 1) → A20 qs → A20 us → qs.length + us.length ≤ 10 → ∃ (qs' us' : List Rat) (y7 : Option SV),
    fL (gN 7) lB_law_3 (ds.map PyData.int) (P62 ns (some (.se (ld l) (qs.map fr) (us.map fr))) x3 x4 x5 (some (.se (ld l) (qs.map fr) (us.map fr))) x7 x8 x9) W = .nx (P62 ns (some (.se (ld l) (qs'.map fr) (us'.map fr))) x3 x4 x5 (some (.se (ld l) (qs'.map fr) (us'.map fr))) y7 x8 x9) W
  | [], qs, us, x7, hd, A, B, hl => ⟨qs, us, x7, rfl⟩
  | d :: ds, qs, us, x7, hd, A, B, hl => by
    obtain ⟨o, qs1, us1, A1, B1, l1, no, T⟩ := turn62 (L := ld l) (w := d) (hd d (by simp)) hl A B
    obtain ⟨qs', us', y7, ih⟩ := ways_loop k ds qs1 us1 (some (.d (.int d))) (fun e he => hd e (List.mem_cons_of_mem _ he)) A1 B1 l1
    refine ⟨qs', us', y7, ?_⟩
    have hp := paid_s (U := us1.map fr) k (ses20 A1 (by omega))
    have e : lB_law_3 (P62 ns (some (.se (ld l) (qs.map fr) (us.map fr))) x3 x4 x5 (some (.se (ld l) (qs.map fr) (us.map fr))) (some (.d (.int d))) x8 x9) W = .nx (P62 ns (some (.se (ld l) (qs1.map fr) (us1.map fr))) x3 x4 x5 (some (.se (ld l) (qs1.map fr) (us1.map fr))) (some (.d (.int d))) x8 x9) W := by
      unfold lB_law_3
      exact st_both (T 2 (eVar 7) _ W rfl rfl) (T 6 (eVar 7) _ W rfl rfl) no rfl hp (Gq.ne (k := 2) .rt (by decide))
    rw [List.map_cons, fL_step (ρ1 := P62 ns (some (.se (ld l) (qs.map fr) (us.map fr))) x3 x4 x5 (some (.se (ld l) (qs.map fr) (us.map fr))) (some (.d (.int d))) x8 x9) rfl e]
    exact ih
/-! ### texts cut short -/
theorem outD_exc {Fl : List Dt → Res SV} {Fn : Str → Res Dt} {x d : Dt} {c : Str} (h : Fl [x] = .exc c) (hm : c ∈ excN) (hN : Fn c = .ok d) : outD Fl Fn [.int 2, x] = .ok (.tuple [.str "raised", d]) := by
  simp [outD, h, hm, hN]
theorem st_cut1 {Fd : List Dt → List Dt → Res (Dt × List Dt)} {Fo Fr : List Dt → Res Dt} {ws ws1 : List Dt} {T T1 o : Dt} {n d m : Nat} (h1 : lenD [T] = some (.int (n : Int))) (e1 : Fd [scD ns, .int (n : Int)] ws = .ok (.int (d : Int), ws1)) (hs : sliceD T none (some ((n : Int) - (1 + (d : Int)))) = some T1) (ho : Fo [.int 2, T1] = .ok o) (hr : Fr [.str "text"] = .ok o) (no : neD o o = some (.bool false)) :
    sSeq (sAsg 8 (eBin addD (eC (.int 1)) (eCallT 1 Fd (eVar 0) 1 (aCons (eCB lenD (aCons (eVar 5) aNil)) aNil))))
      (sIf (bOf (eBin neD (eCall 2 Fo (aCons (eC (.int 2)) (aCons (eSlice (eVar 5) oNone (oSome (eBin subD (eCB lenD (aCons (eVar 5) aNil)) (eVar 8)))) aNil))) (eCall 1 Fr (aCons (eC (.str "text")) aNil)))) (sRet (eC (.bool false))) sPass)
      (P62 ns x2 x3 x4 (some (.d T)) x6 x7 x8 x9) (some ws) = .nx (P62 ns x2 x3 x4 (some (.d T)) x6 x7 (some (.d (.int (1 + (d : Int))))) x9) (some ws1) := by
  have a : addD (.int 1) (.int (d : Int)) = some (.int (1 + (d : Int))) := rfl
  generalize (d : Int) = DD at *
  generalize (n : Int) = NN at *
  refine sSeq_nx (ρ1 := P62 ns x2 x3 x4 (some (.d T)) x6 x7 (some (.d (.int (1 + DD)))) x9) (W1 := some ws1) ?_ ?_
  · simp [P62, h1, e1]
  · generalize 1 + DD = CC at *
    simp [P62, h1, hs, ho, hr, no]
theorem cut_loop {l : Lad} {qs us : List Rat} (hl : ns.length ≤ 63) (h0 : (sTx0 l qs us).length ≤ 800) : ∀ (ds : List Nat) (x3 x8 : Option SV) (m : Nat) (ws : List Dt), Tn ns (m + ds.length) ws → ∃ (y3 y8 : Option SV) (ws' : List Dt),
    fL (gN 3) lB_law_4 (ds.map iD) (P62 ns x2 x3 x4 (some (.d (.str (mkS (sTx l qs us))))) x6 x7 x8 x9) (some ws) = .nx (P62 ns x2 y3 x4 (some (.d (.str (mkS (sTx l qs us))))) x6 x7 y8 x9) (some ws')
  | [], x3, x8, m, ws, t => ⟨x3, x8, ws, rfl⟩
  | i :: ds, x3, x8, m, ws, t => by
    have hlen : (sTx l qs us).length = (sTx0 l qs us).length + 1 := by unfold sTx; rw [List.length_append, List.length_singleton]
    obtain ⟨d, ws1, e1, hd, t1⟩ := draw_ok (ns := ns) (L := (sTx l qs us).length) (m := m + ds.length) hl (by omega) (Nat.lt_of_le_of_lt (show _ ≤ 801 by omega) (by decide)) (t.mono (by rw [List.length_cons]; omega))
    have e1 : F__law_draw [scD ns, .int ((sTx l qs us).length : Int)] ws = .ok (.int (d : Int), ws1) := e1
    obtain ⟨y3, y8, ws', ih⟩ := cut_loop hl h0 ds (some (.d (iD i))) (some (.d (.int (1 + (d : Int))))) m ws1 t1
    refine ⟨y3, y8, ws', ?_⟩
    have h1 : lenD [.str (mkS (sTx l qs us))] = some (.int ((sTx l qs us).length : Int)) := by
      show (if (mkS (sTx l qs us)).length ≤ 100000 then some (PyData.int ((mkS (sTx l qs us)).length : Int)) else none) = _
      rw [mkS_len, if_pos (by omega)]
    have hs : sliceD (.str (mkS (sTx l qs us))) none (some (((sTx l qs us).length : Int) - (1 + (d : Int)))) = some (.str (mkS ((sTx l qs us).take ((sTx l qs us).length - (1 + d))))) := by
      rw [show ((sTx l qs us).length : Int) - (1 + (d : Int)) = (((sTx l qs us).length - (1 + d) : Nat) : Int) by omega, slice_str (by omega), cutS_take]
    have ho := outD_exc (Fn := F__law_name) (load_cutS (m := (sTx l qs us).length - (1 + d)) h0 (by omega)) in_text nm_text
    have e : lB_law_4 (P62 ns x2 (some (.d (iD i))) x4 (some (.d (.str (mkS (sTx l qs us))))) x6 x7 x8 x9) (some ws) = .nx (P62 ns x2 (some (.d (iD i))) x4 (some (.d (.str (mkS (sTx l qs us))))) x6 x7 (some (.d (.int (1 + (d : Int))))) x9) (some ws1) := by
      unfold lB_law_4
      exact st_cut1 (m := 0) h1 e1 hs ho ra_text (raised 7)
    rw [List.map_cons, fL_step (ρ1 := P62 ns x2 (some (.d (iD i))) x4 (some (.d (.str (mkS (sTx l qs us))))) x6 x7 x8 x9) rfl e]
    exact ih
/-! ### no texts -/
theorem bads62 {Fo : List Dt → Res Dt} {o : Dt} {ρ : Sl} (hl : ρ.length = 10) : ∀ (ds : List Dt), (∀ d ∈ ds, Fo [.int 2, d] = .ok o) → cL (gN 9) bYes (eCall 2 Fo (aCons (eC (.int 2)) (aCons (eVar 9) aNil))) ρ ds W = .ok (ds.map fun _ => o, W)
  | [], h => rfl
  | d :: ds, h => by
    have h1 := h d (by simp)
    have e9 : (ρ.set 9 (some (SV.d d)))[9]? = some (some (.d d)) := List.getElem?_set_self (by omega)
    rw [List.map_cons]
    exact cL_yes (ρ1 := ρ.set 9 (some (.d d))) (by rw [gN_s, if_pos (by omega)]) rfl (by simp [e9, h1]) (bads62 hl ds fun e he => h e (List.mem_cons_of_mem _ he))
theorem five_eq : eqD (.list [.tuple [.str "raised", .int 7], .tuple [.str "raised", .int 7], .tuple [.str "raised", .int 7], .tuple [.str "raised", .int 7], .tuple [.str "raised", .int 7]]) (.list [.tuple [.str "raised", .int 7], .tuple [.str "raised", .int 7], .tuple [.str "raised", .int 7], .tuple [.str "raised", .int 7], .tuple [.str "raised", .int 7]]) = some (.bool true) := by kernel_rfl
theorem st_last62 {Fo Fr : List Dt → Res Dt} {T o : Dt} (hb : ∀ d, isiD "str" d = some (.bool false) → Fo [.int 2, d] = .ok o) (hr : Fr [.str "text"] = .ok o) (hm : mulD (.list [o]) (.int 5) = some (.list [o, o, o, o, o])) (he : eqD (.list [o, o, o, o, o]) (.list [o, o, o, o, o]) = some (.bool true)) :
    sRet (eBin eqD (eFrz (lComp (iSeq (eTup (aCons (eC .none) (aCons (eC (.int 5)) (aCons (eC (.bool true)) (aCons (eFrz (lLst (aCons (eVar 5) aNil))) (aCons (eTup (aCons (eVar 5) aNil)) aNil))))))) (gN 9) bYes (eCall 2 Fo (aCons (eC (.int 2)) (aCons (eVar 9) aNil))) [9])) (eBin mulD (eFrz (lLst (aCons (eCall 1 Fr (aCons (eC (.str "text")) aNil)) aNil))) (eC (.int 5))))
      (P62 ns x2 x3 x4 (some (.d T)) x6 x7 x8 none) W = .rt (.d (.bool true)) W := by
  have hc := bads62 (W := W) (Fo := Fo) (o := o) (ρ := P62 ns x2 x3 x4 (some (.d T)) x6 x7 x8 none) rfl [.none, .int 5, .bool true, .list [T], .tuple [T]] fun d hd => hb d (by
    simp only [List.mem_cons, List.mem_nil_iff, or_false] at hd
    rcases hd with rfl | rfl | rfl | rfl | rfl <;> rfl)
  simp only [P62, List.map_cons, List.map_nil] at hc
  generalize (eCall 2 Fo (aCons (eC (.int 2)) (aCons (eVar 9) aNil))) = EC at *
  simp [P62, wipeOk, hc, hr, hm, he]
end
/-! ### the steps between -/
section
variable {ns : List Int} {W : Tw} {x2 x3 x4 x5 x6 x7 x8 x9 : Option SV}
theorem st_new62 {Fl : List Dt → List Dt → Res (Dt × List Dt)} {Fi : Dt → Res SV} {L : Dt} {ws ws1 : List Dt} (e : Fl [scD ns, .int 4] ws = .ok (L, ws1)) (h : Fi L = .ok (.se L [] [])) : sNewS 2 Fi (eCallT 1 Fl (eVar 0) 1 (aCons (eC (.int 4)) aNil)) (P62 ns x2 x3 x4 x5 x6 x7 x8 x9) (some ws) = .nx (P62 ns (some (.se L [] [])) x3 x4 x5 x6 x7 x8 x9) (some ws1) := by
  simp [sNewS, P62, e, h]
theorem st_rng62 {Fd : List Dt → List Dt → Res (Dt × List Dt)} {ws ws1 : List Dt} {d : Nat} {B : SS} {N : Int} (e1 : Fd [scD ns, .int N] ws = .ok (.int (d : Int), ws1)) (hd : d ≤ 1000) :
    sFor (iRng (aCons (eCallT 1 Fd (eVar 0) 1 (aCons (eC (.int N)) aNil)) aNil)) (gN 3) B (P62 ns x2 x3 x4 x5 x6 x7 x8 x9) (some ws) = fL (gN 3) B ((List.range d).map iD) (P62 ns x2 x3 x4 x5 x6 x7 x8 x9) (some ws1) := by
  have hr : rngOf [.int (d : Int)] = some ((List.range d).map iD) := rngOf_n hd
  generalize (List.range d).map iD = R at *
  generalize (d : Int) = DD at *
  simp [P62, e1, hr]
theorem st_now {Ft Fp : Dt → List Dt → List Dt → Res Dt} {L S Z : Dt} {D U : List Dt} (h1 : Ft L D U = .ok S) (h2 : Fp L D U = .ok Z) : sAsg 4 (eTup (aCons (eQ 2 Ft) (aCons (eQ 2 Fp) aNil))) (P62 ns (some (.se L D U)) x3 x4 x5 x6 x7 x8 x9) W = .nx (P62 ns (some (.se L D U)) x3 (some (.d (.tuple [S, Z]))) x5 x6 x7 x8 x9) W := by
  simp [P62, eQ, h1, h2]
theorem st_save {Fs : Dt → List Dt → List Dt → Res Dt} {L T : Dt} {D U : List Dt} (h : Fs L D U = .ok T) : sAsg 5 (eQ 2 Fs) (P62 ns (some (.se L D U)) x3 x4 x5 x6 x7 x8 x9) W = .nx (P62 ns (some (.se L D U)) x3 x4 (some (.d T)) x6 x7 x8 x9) W := by
  simp [P62, eQ, h]
theorem st_chk {Ft Fp : Dt → List Dt → List Dt → Res Dt} {L S Z : Dt} {D U : List Dt} {T : Str} (h1 : Ft L D U = .ok S) (h2 : Fp L D U = .ok Z) (n : neD (.tuple [S, Z]) (.tuple [S, Z]) = some (.bool false)) :
    sIf (bOr (bNot (bOf (eUn (isiD "str") (eVar 5)))) (bOf (eBin neD (eTup (aCons (eQ 2 Ft) (aCons (eQ 2 Fp) aNil))) (eVar 4)))) (sRet (eC (.bool false))) sPass (P62 ns (some (.se L D U)) x3 (some (.d (.tuple [S, Z]))) (some (.d (.str T))) x6 x7 x8 x9) W = .nx (P62 ns (some (.se L D U)) x3 (some (.d (.tuple [S, Z]))) (some (.d (.str T))) x6 x7 x8 x9) W := by
  have hi : isiD "str" (.str T) = some (.bool true) := rfl
  simp [P62, eQ, h1, h2, n, hi]
theorem st_load {Fl : Dt → Res SV} {L T : Dt} {D U : List Dt} (h : Fl T = .ok (.se L D U)) : sNewS 6 Fl (eVar 5) (P62 ns x2 x3 x4 (some (.d T)) x6 x7 x8 x9) W = .nx (P62 ns x2 x3 x4 (some (.d T)) (some (.se L D U)) x7 x8 x9) W := by
  simp [sNewS, P62, h]
theorem st_same {Ft Fp Fs : Dt → List Dt → List Dt → Res Dt} {L S Z : Dt} {D U : List Dt} {T : Str} (h1 : Ft L D U = .ok S) (h2 : Fp L D U = .ok Z) (h3 : Fs L D U = .ok (.str T)) (he : eqS L D L D = some true) (n : neD (.tuple [S, Z]) (.tuple [S, Z]) = some (.bool false)) (nT : neD (.str T) (.str T) = some (.bool false)) :
    sIf (bOr (bOf (eNeSS 6 2)) (bOr (bOf (eBin neD (eTup (aCons (eQ 6 Ft) (aCons (eQ 6 Fp) aNil))) (eVar 4))) (bOf (eBin neD (eStrS 6 Fs) (eStrS 2 Fs))))) (sRet (eC (.bool false))) sPass (P62 ns (some (.se L D U)) x3 (some (.d (.tuple [S, Z]))) x5 (some (.se L D U)) x7 x8 x9) W = .nx (P62 ns (some (.se L D U)) x3 (some (.d (.tuple [S, Z]))) x5 (some (.se L D U)) x7 x8 x9) W := by
  simp [P62, eQ, eNeSS, eStrS, h1, h2, h3, he, n, nT]
def ways : List Int := [1, 1, 1, 1, 1, 1, 1, 1, 0, 0, 0, 0, 0, 0, 0, 0, 0, 0, 0, 0, 0, 0, 0, 0, 0, 1, 1, 1, 1]
theorem ways_01 : ∀ d ∈ ways, d = 0 ∨ d = 1 := by decide
theorem w1 : mulD (.list [.int 1]) (.int 8) = some (.list ((ways.take 8).map PyData.int)) := by kernel_rfl
theorem w2 : mulD (.list [.int 0]) (.int 17) = some (.list (((ways.drop 8).take 17).map PyData.int)) := by kernel_rfl
theorem w3 : mulD (.list [.int 1]) (.int 4) = some (.list ((ways.drop 25).map PyData.int)) := by kernel_rfl
theorem w4 : addD (.list ((ways.take 8).map PyData.int)) (.list (((ways.drop 8).take 17).map PyData.int)) = some (.list ((ways.take 25).map PyData.int)) := by kernel_rfl
theorem w5 : addD (.list ((ways.take 25).map PyData.int)) (.list ((ways.drop 25).map PyData.int)) = some (.list (ways.map PyData.int)) := by kernel_rfl
theorem st_ways {B : SS} {ρ : Sl} : sFor (iSeq (eBin addD (eBin addD (eBin mulD (eFrz (lLst (aCons (eC (.int 1)) aNil))) (eC (.int 8))) (eBin mulD (eFrz (lLst (aCons (eC (.int 0)) aNil))) (eC (.int 17)))) (eBin mulD (eFrz (lLst (aCons (eC (.int 1)) aNil))) (eC (.int 4))))) (gN 7) B ρ W = fL (gN 7) B (ways.map PyData.int) ρ W := by
  have h1 := w1
  have h2 := w2
  have h3 := w3
  have h4 := w4
  have h5 := w5
  generalize (ways.take 8).map PyData.int = A1 at *
  generalize ((ways.drop 8).take 17).map PyData.int = A2 at *
  generalize (ways.drop 25).map PyData.int = A3 at *
  generalize (ways.take 25).map PyData.int = A4 at *
  generalize ways.map PyData.int = A5 at *
  simp [h1, h2, h3, h4, h5]
theorem st_four {B : SS} {ρ : Sl} : sFor (iRng (aCons (eC (.int 4)) aNil)) (gN 3) B ρ W = fL (gN 3) B ((List.range 4).map iD) ρ W := by
  have hr : rngOf [.int 4] = some ((List.range 4).map iD) := rngOf_n (n := 4) (by decide)
  generalize (List.range 4).map iD = R at *
  simp [hr]
end
theorem sSeq_rt62 {a b : SS} {ρ ρ1 : Sl} {W W1 W2 : Tw} {v : SV} (h : a ρ W = .nx ρ1 W1) (k : b ρ1 W1 = .rt v W2) : sSeq a b ρ W = .rt v W2 := by
  rw [sSeq_s, h]; exact k
theorem mul5 : mulD (.list [.tuple [.str "raised", .int 7]]) (.int 5) = some (.list [.tuple [.str "raised", .int 7], .tuple [.str "raised", .int 7], .tuple [.str "raised", .int 7], .tuple [.str "raised", .int 7], .tuple [.str "raised", .int 7]]) := by kernel_rfl
theorem law_true (ns : List Int) (hl : ns.length ≤ 63) : F_law [.list (ns.map PyData.int)] = .ok (.bool true) := by
  obtain ⟨l, ws1, e1, k, hn4, t1⟩ := ladder_ok (ns := ns) (most := 4) (m := 500000) hl (by decide) (by decide) ((Tn.start ns).mono (by decide))
  have e0 := town_ok ns hl
  have e1 : F__law_ladder [scD ns, .int 4] (.int 0 :: ns.map PyData.int) = .ok (ld l, ws1) := e1
  obtain ⟨d, ws2, e2, hd, t2⟩ := draw_ok (ns := ns) (L := 9) (m := 400000) hl (by decide) (by decide) (t1.mono (by decide))
  have e2 : F__law_draw [scD ns, .int 9] ws1 = .ok (.int (d : Int), ws2) := e2
  obtain ⟨qs0, y3, ws3, A0, l0, t3, e3⟩ := put_loop62 (ns := ns) (l := l) (x4 := none) (x5 := none) (x6 := none) (x7 := none) (x8 := none) (x9 := none) hl k (List.range d) [] none 300000 ws2 A20.nil (by simp; omega) (t2.mono (by simp; omega))
  rw [List.length_nil, List.length_range, Nat.zero_add] at l0
  obtain ⟨d6, ws4, e4, hd6, t4⟩ := draw_ok (ns := ns) (L := 6) (m := 200000) hl (by decide) (by decide) (t3.mono (by decide))
  have e4 : F__law_draw [scD ns, .int 6] ws3 = .ok (.int (d6 : Int), ws4) := e4
  obtain ⟨qs, us, z3, A, B, hlen, e5⟩ := undo_loop62 (ns := ns) (W := some ws4) (x4 := none) (x5 := none) (x6 := none) (x7 := none) (x8 := none) (x9 := none) (L := ld l) ((List.range d6).map iD) qs0 [] y3 A0 A20.nil (by simp; omega)
  have hqA : ∀ q ∈ qs, Amt q := fun q h => (A q h).amt (by decide)
  have huA : ∀ q ∈ us, Amt q := fun q h => (B q h).amt (by decide)
  have s := ses20 A (by omega)
  have ht := total_s (l := l) (U := us.map fr) s.b
  have hp := paid_s (U := us.map fr) k s
  obtain ⟨a, b, eS, ha, hb⟩ := sum_nums A (by omega)
  have hs := str_s (l := l) (U := us.map fr) s (by omega) eS ha hb
  have hsave := save_ok k hqA huA hlen
  have hload := load_ok k A B hlen
  have h0 := sTx0_len k hqA huA hlen
  have n1 : neD (.tuple [fr (sumR qs), .tuple (rtL l.n (l.T (sumR qs)))]) (.tuple [fr (sumR qs), .tuple (rtL l.n (l.T (sumR qs)))]) = some (.bool false) := Gq.ne (k := 4) (.tup (.cons .fr (.cons .rt .nil))) (by decide)
  have hE : eqS (ld l) (qs.map fr) (ld l) (qs.map fr) = some true := by
    have h1 : eqD (ld l) (ld l) = some (.bool true) := Gq.eq (k := 5) .ld (by decide)
    have h2 : eqD (.list (qs.map fr)) (.list (qs.map fr)) = some (.bool true) := Gq.eq (gq_frs (k := 0)) (by decide)
    unfold eqS
    rw [h1, h2]
  obtain ⟨qs', us', y7, e6⟩ := ways_loop (ns := ns) (W := some ws4) (x3 := z3) (x4 := some (.d (.tuple [fr (sumR qs), .tuple (rtL l.n (l.T (sumR qs)))]))) (x5 := some (.d (.str (mkS (sTx l qs us))))) (x8 := none) (x9 := none) k ways qs us none ways_01 A B hlen
  obtain ⟨w3, w8, ws5, e7⟩ := cut_loop (ns := ns) (x2 := some (.se (ld l) (qs'.map fr) (us'.map fr))) (x4 := some (.d (.tuple [fr (sumR qs), .tuple (rtL l.n (l.T (sumR qs)))]))) (x6 := some (.se (ld l) (qs'.map fr) (us'.map fr))) (x7 := y7) (x9 := none) hl h0 (List.range 4) z3 none 1000 ws4 (t4.mono (by simp))
  have hbad : ∀ d, isiD "str" d = some (.bool false) → outD F_load F__law_name [.int 2, d] = .ok (.tuple [.str "raised", .int 7]) := fun d h => outD_exc (load_kind h) in_text nm_text
  have hB : B_law [some (.d (scD ns)), none, none, none, none, none, none, none, none, none] none = .rt (.d (.bool true)) (some ws5) := by
    unfold B_law
    refine sSeq_rt62 (ρ1 := P62 ns none none none none none none none none) (W1 := some (.int 0 :: ns.map PyData.int)) (by simp [P62, e0]) ?_
    refine sSeq_rt62 (st_new62 e1 (init_X k)) ?_
    refine sSeq_rt62 ((st_rng62 e2 (by omega)).trans e3) ?_
    refine sSeq_rt62 ((st_rng62 e4 (by omega)).trans e5) ?_
    refine sSeq_rt62 (st_now ht hp) ?_
    refine sSeq_rt62 (st_save hsave) ?_
    refine sSeq_rt62 (st_chk ht hp n1) ?_
    refine sSeq_rt62 (st_load (Fl := fun d => F_load [d]) hload) ?_
    refine sSeq_rt62 (st_same ht hp hs hE n1 ne_tx) ?_
    refine sSeq_rt62 (st_ways.trans e6) ?_
    refine sSeq_rt62 (st_four.trans e7) ?_
    exact st_last62 hbad ra_text mul5 five_eq
  unfold F_law runP
  have hs0 : start0 10 [.list (ns.map PyData.int)] = [some (.d (scD ns)), none, none, none, none, none, none, none, none, none] := rfl
  rw [hs0, hB]
end Sx

namespace Sx
open PySem PySem.Spec PyProof.Rows L2

theorem facts {P : Program} {w : World} {K : PySem.W.Frag} {h : Heap} {mg : Str → Option Value} {f : Addr} (KX : K.In h) (G : h.Ns mainGlobals mg) (hfa : mg ("law" : Str) = some (.ref f)) (c : He.SaysX fa fn [] [] (exL0 exZES) w h K) :
    ∃ fd : FuncData, (∀ (s : Shared) (v : Value), BindsTo s fd ⟨[v], []⟩ [("script", v)]) ∧ ∀ base : Heap, K.In base → base.Ns mainGlobals mg → FnOk P w K mg base CX0 15 f fd ["script"] (spP K 1 F_law) := by
  have cT := c.t
  have cD : He.SaysD fa fn K := cT.d
  have F_0 : ∃ f fd, FnP K "is_between" (top 18) f fd ∧ mg "is_between" = some (.ref f) := by
    obtain ⟨fd, F⟩ := cD.def_ 0 (d := dd_is_between) rfl
    exact ⟨_, fd, F, He.glo_ok KX G (cD.fact 0 (f := .glo "is_between") rfl)⟩
  have F_1 : ∃ f fd, FnP K "divisor" (top 19) f fd ∧ mg "divisor" = some (.ref f) := by
    obtain ⟨fd, F⟩ := cD.def_ 1 (d := dd_divisor) rfl
    exact ⟨_, fd, F, He.glo_ok KX G (cD.fact 1 (f := .glo "divisor") rfl)⟩
  have F_2 : ∃ f fd, FnP K "fraction" (top 20) f fd ∧ mg "fraction" = some (.ref f) := by
    obtain ⟨fd, F⟩ := cD.def_ 2 (d := dd_fraction) rfl
    exact ⟨_, fd, F, He.glo_ok KX G (cD.fact 2 (f := .glo "fraction") rfl)⟩
  have F_3 : ∃ f fd, FnP K "plus" (top 21) f fd ∧ mg "plus" = some (.ref f) := by
    obtain ⟨fd, F⟩ := cD.def_ 3 (d := dd_plus) rfl
    exact ⟨_, fd, F, He.glo_ok KX G (cD.fact 3 (f := .glo "plus") rfl)⟩
  have F_4 : ∃ f fd, FnP K "minus" (top 22) f fd ∧ mg "minus" = some (.ref f) := by
    obtain ⟨fd, F⟩ := cD.def_ 4 (d := dd_minus) rfl
    exact ⟨_, fd, F, He.glo_ok KX G (cD.fact 4 (f := .glo "minus") rfl)⟩
  have F_5 : ∃ f fd, FnP K "product" (top 23) f fd ∧ mg "product" = some (.ref f) := by
    obtain ⟨fd, F⟩ := cD.def_ 5 (d := dd_product) rfl
    exact ⟨_, fd, F, He.glo_ok KX G (cD.fact 5 (f := .glo "product") rfl)⟩
  have F_6 : ∃ f fd, FnP K "quotient" (top 24) f fd ∧ mg "quotient" = some (.ref f) := by
    obtain ⟨fd, F⟩ := cD.def_ 6 (d := dd_quotient) rfl
    exact ⟨_, fd, F, He.glo_ok KX G (cD.fact 6 (f := .glo "quotient") rfl)⟩
  have F_7 : ∃ f fd, FnP K "is_less" (top 25) f fd ∧ mg "is_less" = some (.ref f) := by
    obtain ⟨fd, F⟩ := cD.def_ 7 (d := dd_is_less) rfl
    exact ⟨_, fd, F, He.glo_ok KX G (cD.fact 7 (f := .glo "is_less") rfl)⟩
  have F_8 : ∃ f fd, FnP K "lesser" (top 26) f fd ∧ mg "lesser" = some (.ref f) := by
    obtain ⟨fd, F⟩ := cD.def_ 8 (d := dd_lesser) rfl
    exact ⟨_, fd, F, He.glo_ok KX G (cD.fact 8 (f := .glo "lesser") rfl)⟩
  have F_9 : ∃ f fd, FnP K "sum_of" (top 27) f fd ∧ mg "sum_of" = some (.ref f) := by
    obtain ⟨fd, F⟩ := cD.def_ 9 (d := dd_sum_of) rfl
    exact ⟨_, fd, F, He.glo_ok KX G (cD.fact 9 (f := .glo "sum_of") rfl)⟩
  have F_10 : ∃ f fd, FnP K "are_pairs" (top 28) f fd ∧ mg "are_pairs" = some (.ref f) := by
    obtain ⟨fd, F⟩ := cD.def_ 10 (d := dd_are_pairs) rfl
    exact ⟨_, fd, F, He.glo_ok KX G (cD.fact 10 (f := .glo "are_pairs") rfl)⟩
  have F_11 : ∃ f fd, FnP K "is_rung" (top 29) f fd ∧ mg "is_rung" = some (.ref f) := by
    obtain ⟨fd, F⟩ := cD.def_ 11 (d := dd_is_rung) rfl
    exact ⟨_, fd, F, He.glo_ok KX G (cD.fact 11 (f := .glo "is_rung") rfl)⟩
  have F_12 : ∃ f fd, FnP K "is_endless" (top 30) f fd ∧ mg "is_endless" = some (.ref f) := by
    obtain ⟨fd, F⟩ := cD.def_ 12 (d := dd_is_endless) rfl
    exact ⟨_, fd, F, He.glo_ok KX G (cD.fact 12 (f := .glo "is_endless") rfl)⟩
  have F_13 : ∃ f fd, FnP K "is_ladder" (top 31) f fd ∧ mg "is_ladder" = some (.ref f) := by
    obtain ⟨fd, F⟩ := cD.def_ 13 (d := dd_is_ladder) rfl
    exact ⟨_, fd, F, He.glo_ok KX G (cD.fact 13 (f := .glo "is_ladder") rfl)⟩
  have F_14 : ∃ f fd, FnP K "check_ladder" (top 32) f fd ∧ mg "check_ladder" = some (.ref f) := by
    obtain ⟨fd, F⟩ := cD.def_ 14 (d := dd_check_ladder) rfl
    exact ⟨_, fd, F, He.glo_ok KX G (cD.fact 14 (f := .glo "check_ladder") rfl)⟩
  have F_15 : ∃ f fd, FnP K "is_amount" (top 33) f fd ∧ mg "is_amount" = some (.ref f) := by
    obtain ⟨fd, F⟩ := cD.def_ 15 (d := dd_is_amount) rfl
    exact ⟨_, fd, F, He.glo_ok KX G (cD.fact 15 (f := .glo "is_amount") rfl)⟩
  have F_16 : ∃ f fd, FnP K "check_amount" (top 34) f fd ∧ mg "check_amount" = some (.ref f) := by
    obtain ⟨fd, F⟩ := cD.def_ 16 (d := dd_check_amount) rfl
    exact ⟨_, fd, F, He.glo_ok KX G (cD.fact 16 (f := .glo "check_amount") rfl)⟩
  have F_17 : ∃ f fd, FnP K "fixed_pieces" (top 36) f fd ∧ mg "fixed_pieces" = some (.ref f) := by
    obtain ⟨fd, F⟩ := cD.def_ 17 (d := dd_fixed_pieces) rfl
    exact ⟨_, fd, F, He.glo_ok KX G (cD.fact 17 (f := .glo "fixed_pieces") rfl)⟩
  have F_18 : ∃ f fd, FnP K "share_pieces" (top 37) f fd ∧ mg "share_pieces" = some (.ref f) := by
    obtain ⟨fd, F⟩ := cD.def_ 18 (d := dd_share_pieces) rfl
    exact ⟨_, fd, F, He.glo_ok KX G (cD.fact 18 (f := .glo "share_pieces") rfl)⟩
  have F_19 : ∃ f fd, FnP K "rung_pieces" (top 38) f fd ∧ mg "rung_pieces" = some (.ref f) := by
    obtain ⟨fd, F⟩ := cD.def_ 19 (d := dd_rung_pieces) rfl
    exact ⟨_, fd, F, He.glo_ok KX G (cD.fact 19 (f := .glo "rung_pieces") rfl)⟩
  have F_20 : ∃ f fd, FnP K "pieces_of" (top 39) f fd ∧ mg "pieces_of" = some (.ref f) := by
    obtain ⟨fd, F⟩ := cD.def_ 20 (d := dd_pieces_of) rfl
    exact ⟨_, fd, F, He.glo_ok KX G (cD.fact 20 (f := .glo "pieces_of") rfl)⟩
  have F_21 : ∃ f fd, FnP K "found_bends" (top 40) f fd ∧ mg "found_bends" = some (.ref f) := by
    obtain ⟨fd, F⟩ := cD.def_ 21 (d := dd_found_bends) rfl
    exact ⟨_, fd, F, He.glo_ok KX G (cD.fact 21 (f := .glo "found_bends") rfl)⟩
  have F_22 : ∃ f fd, FnP K "payment_at" (top 41) f fd ∧ mg "payment_at" = some (.ref f) := by
    obtain ⟨fd, F⟩ := cD.def_ 22 (d := dd_payment_at) rfl
    exact ⟨_, fd, F, He.glo_ok KX G (cD.fact 22 (f := .glo "payment_at") rfl)⟩
  have F_23 : ∃ f fd, FnP K "all_payments" (top 42) f fd ∧ mg "all_payments" = some (.ref f) := by
    obtain ⟨fd, F⟩ := cD.def_ 23 (d := dd_all_payments) rfl
    exact ⟨_, fd, F, He.glo_ok KX G (cD.fact 23 (f := .glo "all_payments") rfl)⟩
  have F_24 : ∃ f fd, FnP K "pairs_text" (top 46) f fd ∧ mg "pairs_text" = some (.ref f) := by
    obtain ⟨fd, F⟩ := cD.def_ 24 (d := dd_pairs_text) rfl
    exact ⟨_, fd, F, He.glo_ok KX G (cD.fact 24 (f := .glo "pairs_text") rfl)⟩
  have F_25 : ∃ f fd, FnP K "rung_text" (top 47) f fd ∧ mg "rung_text" = some (.ref f) := by
    obtain ⟨fd, F⟩ := cD.def_ 25 (d := dd_rung_text) rfl
    exact ⟨_, fd, F, He.glo_ok KX G (cD.fact 25 (f := .glo "rung_text") rfl)⟩
  have F_26 : ∃ f fd, FnP K "ladder_text" (top 48) f fd ∧ mg "ladder_text" = some (.ref f) := by
    obtain ⟨fd, F⟩ := cD.def_ 26 (d := dd_ladder_text) rfl
    exact ⟨_, fd, F, He.glo_ok KX G (cD.fact 26 (f := .glo "ladder_text") rfl)⟩
  have F_27 : ∃ f fd, FnP K "number_of" (top 49) f fd ∧ mg "number_of" = some (.ref f) := by
    obtain ⟨fd, F⟩ := cD.def_ 27 (d := dd_number_of) rfl
    exact ⟨_, fd, F, He.glo_ok KX G (cD.fact 27 (f := .glo "number_of") rfl)⟩
  have F_28 : ∃ f fd, FnP K "read_pairs" (top 50) f fd ∧ mg "read_pairs" = some (.ref f) := by
    obtain ⟨fd, F⟩ := cD.def_ 28 (d := dd_read_pairs) rfl
    exact ⟨_, fd, F, He.glo_ok KX G (cD.fact 28 (f := .glo "read_pairs") rfl)⟩
  have F_29 : ∃ f fd, FnP K "read_rung" (top 51) f fd ∧ mg "read_rung" = some (.ref f) := by
    obtain ⟨fd, F⟩ := cD.def_ 29 (d := dd_read_rung) rfl
    exact ⟨_, fd, F, He.glo_ok KX G (cD.fact 29 (f := .glo "read_rung") rfl)⟩
  have F_30 : ∃ f fd, FnP K "parse_ladder" (top 52) f fd ∧ mg "parse_ladder" = some (.ref f) := by
    obtain ⟨fd, F⟩ := cD.def_ 30 (d := dd_parse_ladder) rfl
    exact ⟨_, fd, F, He.glo_ok KX G (cD.fact 30 (f := .glo "parse_ladder") rfl)⟩
  have F_31 : ∃ f fd, FnP K "save" (top 54) f fd ∧ mg "save" = some (.ref f) := by
    obtain ⟨fd, F⟩ := cD.def_ 31 (d := dd_save) rfl
    exact ⟨_, fd, F, He.glo_ok KX G (cD.fact 31 (f := .glo "save") rfl)⟩
  have F_32 : ∃ f fd, FnP K "load" (top 55) f fd ∧ mg "load" = some (.ref f) := by
    obtain ⟨fd, F⟩ := cD.def_ 32 (d := dd_load) rfl
    exact ⟨_, fd, F, He.glo_ok KX G (cD.fact 32 (f := .glo "load") rfl)⟩
  have F_33 : ∃ f fd, FnP K "_law_town" (top 57) f fd ∧ mg "_law_town" = some (.ref f) := by
    obtain ⟨fd, F⟩ := cD.def_ 33 (d := dd__law_town) rfl
    exact ⟨_, fd, F, He.glo_ok KX G (cD.fact 33 (f := .glo "_law_town") rfl)⟩
  have F_34 : ∃ f fd, FnP K "_law_draw" (top 58) f fd ∧ mg "_law_draw" = some (.ref f) := by
    obtain ⟨fd, F⟩ := cD.def_ 34 (d := dd__law_draw) rfl
    exact ⟨_, fd, F, He.glo_ok KX G (cD.fact 34 (f := .glo "_law_draw") rfl)⟩
  have F_35 : ∃ f fd, FnP K "_law_pick" (top 59) f fd ∧ mg "_law_pick" = some (.ref f) := by
    obtain ⟨fd, F⟩ := cD.def_ 35 (d := dd__law_pick) rfl
    exact ⟨_, fd, F, He.glo_ok KX G (cD.fact 35 (f := .glo "_law_pick") rfl)⟩
  have F_36 : ∃ f fd, FnP K "_law_outcome" (top 60) f fd ∧ mg "_law_outcome" = some (.ref f) := by
    obtain ⟨fd, F⟩ := cD.def_ 36 (d := dd__law_outcome) rfl
    exact ⟨_, fd, F, He.glo_ok KX G (cD.fact 36 (f := .glo "_law_outcome") rfl)⟩
  have F_37 : ∃ f fd, FnP K "_law_name" (top 61) f fd ∧ mg "_law_name" = some (.ref f) := by
    obtain ⟨fd, F⟩ := cD.def_ 37 (d := dd__law_name) rfl
    exact ⟨_, fd, F, He.glo_ok KX G (cD.fact 37 (f := .glo "_law_name") rfl)⟩
  have F_38 : ∃ f fd, FnP K "_law_raises" (top 62) f fd ∧ mg "_law_raises" = some (.ref f) := by
    obtain ⟨fd, F⟩ := cD.def_ 38 (d := dd__law_raises) rfl
    exact ⟨_, fd, F, He.glo_ok KX G (cD.fact 38 (f := .glo "_law_raises") rfl)⟩
  have F_39 : ∃ f fd, FnP K "_law_frac" (top 63) f fd ∧ mg "_law_frac" = some (.ref f) := by
    obtain ⟨fd, F⟩ := cD.def_ 39 (d := dd__law_frac) rfl
    exact ⟨_, fd, F, He.glo_ok KX G (cD.fact 39 (f := .glo "_law_frac") rfl)⟩
  have F_40 : ∃ f fd, FnP K "_law_pairs" (top 64) f fd ∧ mg "_law_pairs" = some (.ref f) := by
    obtain ⟨fd, F⟩ := cD.def_ 40 (d := dd__law_pairs) rfl
    exact ⟨_, fd, F, He.glo_ok KX G (cD.fact 40 (f := .glo "_law_pairs") rfl)⟩
  have F_41 : ∃ f fd, FnP K "_law_rung" (top 65) f fd ∧ mg "_law_rung" = some (.ref f) := by
    obtain ⟨fd, F⟩ := cD.def_ 41 (d := dd__law_rung) rfl
    exact ⟨_, fd, F, He.glo_ok KX G (cD.fact 41 (f := .glo "_law_rung") rfl)⟩
  have F_42 : ∃ f fd, FnP K "_law_ladder" (top 66) f fd ∧ mg "_law_ladder" = some (.ref f) := by
    obtain ⟨fd, F⟩ := cD.def_ 42 (d := dd__law_ladder) rfl
    exact ⟨_, fd, F, He.glo_ok KX G (cD.fact 42 (f := .glo "_law_ladder") rfl)⟩
  have F_43 : ∃ f fd, FnP K "_law_call" (top 67) f fd ∧ mg "_law_call" = some (.ref f) := by
    obtain ⟨fd, F⟩ := cD.def_ 43 (d := dd__law_call) rfl
    exact ⟨_, fd, F, He.glo_ok KX G (cD.fact 43 (f := .glo "_law_call") rfl)⟩
  have F_44 : ∃ f fd, FnP K "law" (top 68) f fd ∧ mg "law" = some (.ref f) := by
    obtain ⟨fd, F⟩ := cD.def_ 44 (d := dd_law) rfl
    exact ⟨_, fd, F, He.glo_ok KX G (cD.fact 44 (f := .glo "law") rfl)⟩
  have g : Glob K mg := ⟨He.free_ok KX G (cD.fact 45 (f := .free "len") rfl), He.free_ok KX G (cD.fact 46 (f := .free "sum") rfl), He.free_ok KX G (cD.fact 47 (f := .free "all") rfl), He.free_ok KX G (cD.fact 48 (f := .free "any") rfl), He.free_ok KX G (cD.fact 49 (f := .free "tuple") rfl), He.free_ok KX G (cD.fact 50 (f := .free "list") rfl), He.free_ok KX G (cD.fact 51 (f := .free "abs") rfl), He.free_ok KX G (cD.fact 52 (f := .free "int") rfl), He.free_ok KX G (cD.fact 53 (f := .free "str") rfl), He.free_ok KX G (cD.fact 54 (f := .free "bool") rfl), He.free_ok KX G (cD.fact 55 (f := .free "max") rfl), He.free_ok KX G (cD.fact 56 (f := .free "min") rfl), He.free_ok KX G (cD.fact 57 (f := .free "dict") rfl), He.free_ok KX G (cD.fact 58 (f := .free "range") rfl), He.free_ok KX G (cD.fact 59 (f := .free "enumerate") rfl), He.free_ok KX G (cD.fact 60 (f := .free "zip") rfl), He.free_ok KX G (cD.fact 61 (f := .free "sorted") rfl), He.free_ok KX G (cD.fact 62 (f := .free "isinstance") rfl)⟩
  have gMOST : HasMost mg := He.int_ok KX G (cD.fact 63 (f := .int "MOST" 1000000) rfl)
  have gZERO : HasZero K mg := ⟨_, He.glo_ok KX G (cD.fact 64 (f := .glo "ZERO") rfl), exZ_ok (exZE_z ((exZES_z (exL0_ex c.more))))⟩
  have EF : ExF K mg := by
    refine exE_ok (exZE_e ((exZES_z (exL0_ex c.more)))) (fun c hc => ?_) (He.glo_ok KX G (cD.fact 78 (f := .glo "LadderError") rfl))
    simp only [excN, List.mem_cons, List.mem_nil_iff, or_false] at hc
    rcases hc with rfl | rfl | rfl | rfl | rfl | rfl | rfl | rfl | rfl | rfl | rfl | rfl | rfl
    · exact He.glo_ok KX G (cD.fact 65 (f := .glo "InvalidLadder") rfl)
    · exact He.glo_ok KX G (cD.fact 66 (f := .glo "InvalidHolder") rfl)
    · exact He.glo_ok KX G (cD.fact 67 (f := .glo "InvalidAmount") rfl)
    · exact He.glo_ok KX G (cD.fact 68 (f := .glo "InvalidNumber") rfl)
    · exact He.glo_ok KX G (cD.fact 69 (f := .glo "InvalidGoal") rfl)
    · exact He.glo_ok KX G (cD.fact 70 (f := .glo "InvalidOptions") rfl)
    · exact He.glo_ok KX G (cD.fact 71 (f := .glo "InvalidChoice") rfl)
    · exact He.glo_ok KX G (cD.fact 72 (f := .glo "InvalidText") rfl)
    · exact He.glo_ok KX G (cD.fact 73 (f := .glo "Unlike") rfl)
    · exact He.glo_ok KX G (cD.fact 74 (f := .glo "NotSimple") rfl)
    · exact He.glo_ok KX G (cD.fact 75 (f := .glo "TooMany") rfl)
    · exact He.glo_ok KX G (cD.fact 76 (f := .glo "TooMuch") rfl)
    · exact He.glo_ok KX G (cD.fact 77 (f := .glo "NothingToUndo") rfl)
  have gVE : mg "ValueError" = none := He.free_ok KX G (cD.fact 79 (f := .free "ValueError") rfl)
  obtain ⟨fl, fdl, Fl, hml⟩ := F_44
  have e := hfa.symm.trans hml
  cases e
  have b := FunD.bindsA (ps := ["script"]) Fl fun _ _ _ _ _ _ us hl => match us, hl with | [_], _ => rfl
  refine ⟨fdl, fun s v => b s [v] rfl, fun base _ _ => ?_⟩
  have c_is_between := cal_is_between (P := P) (w := w) (base := base) g F_0 
  have c_divisor := cal_divisor (P := P) (w := w) (base := base) g F_1 
  have c_is_less := cal_is_less (P := P) (w := w) (base := base) g F_7 
  have c_is_endless := cal_is_endless (P := P) (w := w) (base := base) g F_12 
  have c_pairs_text := cal_pairs_text (P := P) (w := w) (base := base) g F_24 
  have c_number_of := cal_number_of (P := P) (w := w) (base := base) g F_27 
  have c__law_town := cal__law_town (P := P) (w := w) (base := base) g F_33 
  have c__law_draw := cal__law_draw (P := P) (w := w) (base := base) g F_34 
  have c__law_name := cal__law_name (P := P) (w := w) (base := base) g F_37 EF gVE
  have c__law_raises := cal__law_raises (P := P) (w := w) (base := base) g F_38 
  have c__law_frac := cal__law_frac (P := P) (w := w) (base := base) g F_39 
  have c_fraction := cal_fraction (P := P) (w := w) (base := base) g F_2 c_divisor
  have c_lesser := cal_lesser (P := P) (w := w) (base := base) g F_8 c_is_less
  have c_are_pairs := cal_are_pairs (P := P) (w := w) (base := base) g F_10 c_is_between
  have c_is_amount := cal_is_amount (P := P) (w := w) (base := base) g F_15 gMOST c_is_between c_divisor
  have c_rung_text := cal_rung_text (P := P) (w := w) (base := base) g F_25 c_pairs_text
  have c_read_pairs := cal_read_pairs (P := P) (w := w) (base := base) g F_28 c_number_of
  have c__law_pick := cal__law_pick (P := P) (w := w) (base := base) g F_35 c__law_draw
  have c_plus := cal_plus (P := P) (w := w) (base := base) g F_3 c_fraction
  have c_product := cal_product (P := P) (w := w) (base := base) g F_5 c_fraction
  have c_quotient := cal_quotient (P := P) (w := w) (base := base) g F_6 c_fraction
  have c_is_rung := cal_is_rung (P := P) (w := w) (base := base) g F_11 c_are_pairs
  have c_check_amount := cal_check_amount (P := P) (w := w) (base := base) g F_16 c_is_amount
  have c_fixed_pieces := cal_fixed_pieces (P := P) (w := w) (base := base) g F_17 gZERO c_fraction
  have c_ladder_text := cal_ladder_text (P := P) (w := w) (base := base) g F_26 c_rung_text
  have c_read_rung := cal_read_rung (P := P) (w := w) (base := base) g F_29 c_read_pairs
  have c__law_pairs := cal__law_pairs (P := P) (w := w) (base := base) g F_40 c__law_draw c__law_pick
  have c_X_check_amount := cal_X_check_amount (P := P) (w := w) (base := base) g F_16 EF c_is_amount
  have c_minus := cal_minus (P := P) (w := w) (base := base) g F_4 c_plus
  have c_sum_of := cal_sum_of (P := P) (w := w) (base := base) g F_9 gZERO c_plus
  have c_is_ladder := cal_is_ladder (P := P) (w := w) (base := base) g F_13 c_is_endless c_is_between c_is_rung
  have c__law_rung := cal__law_rung (P := P) (w := w) (base := base) g F_41 c__law_pairs c__law_pick c__law_draw
  have c_check_ladder := cal_check_ladder (P := P) (w := w) (base := base) g F_14 c_is_ladder
  have c_share_pieces := cal_share_pieces (P := P) (w := w) (base := base) g F_18 gZERO c_fraction c_quotient c_lesser c_minus c_product
  have c_payment_at := cal_payment_at (P := P) (w := w) (base := base) g F_22 c_plus c_product c_minus c_is_less
  have c_parse_ladder := cal_parse_ladder (P := P) (w := w) (base := base) g F_30 c_number_of c_is_ladder c_ladder_text c_read_rung
  have c__law_ladder := cal__law_ladder (P := P) (w := w) (base := base) g F_42 c__law_draw c__law_rung
  have c_X_check_ladder := cal_X_check_ladder (P := P) (w := w) (base := base) g F_14 EF c_is_ladder
  have c_X_parse_ladder := cal_X_parse_ladder (P := P) (w := w) (base := base) g F_30 EF c_number_of c_is_ladder c_ladder_text c_read_rung
  have c_rung_pieces := cal_rung_pieces (P := P) (w := w) (base := base) g F_19 c_share_pieces c_fixed_pieces
  have c_pieces_of := cal_pieces_of (P := P) (w := w) (base := base) g F_20 c_is_endless c_rung_pieces
  have c_found_bends := cal_found_bends (P := P) (w := w) (base := base) g F_21 gZERO c_pieces_of c_plus c_product
  have c_all_payments := cal_all_payments (P := P) (w := w) (base := base) g F_23 c_payment_at c_found_bends
  have mgS : mg "Session" = some (.ref (SC K)) := He.glo_ok KX G (cD.fact 80 (f := .glo "Session") rfl)
  have sC : SesC K := ⟨He.cls_ok (cD.fact 81 (f := .cls "Session") rfl), He.noat_ok (cD.fact 82 (f := .noat "Session" "ladder") rfl), He.noat_ok (cD.fact 83 (f := .noat "Session" "done") rfl), He.noat_ok (cD.fact 84 (f := .noat "Session" "undone") rfl)⟩
  have mkS : Mk K (SC K) (He.fAd K ("Session", some "__init__")) := He.mkr_ok (cD.fact 85 (f := .mkr "Session") rfl)
  obtain ⟨fd_S__init__, F_S__init__⟩ := cD.def_ 45 (d := dd_S__init__) rfl
  obtain ⟨fd_S__len__, F_S__len__⟩ := cD.def_ 46 (d := dd_S__len__) rfl
  obtain ⟨fd_S__eq__, F_S__eq__⟩ := cD.def_ 47 (d := dd_S__eq__) rfl
  obtain ⟨fd_S__str__, F_S__str__⟩ := cD.def_ 48 (d := dd_S__str__) rfl
  obtain ⟨fd_Sput, F_Sput⟩ := cD.def_ 49 (d := dd_Sput) rfl
  obtain ⟨fd_Stotal, F_Stotal⟩ := cD.def_ 50 (d := dd_Stotal) rfl
  obtain ⟨fd_Spaid, F_Spaid⟩ := cD.def_ 51 (d := dd_Spaid) rfl
  obtain ⟨fd_Sundo, F_Sundo⟩ := cD.def_ 52 (d := dd_Sundo) rfl
  obtain ⟨fd_Sredo, F_Sredo⟩ := cD.def_ 53 (d := dd_Sredo) rfl
  have me___len__ : Meth K (SC K) "__len__" (He.fAd K ("Session", some "__len__")) := He.meth_ok (cD.fact 86 (f := .meth "Session" "__len__") rfl)
  have me___eq__ : Meth K (SC K) "__eq__" (He.fAd K ("Session", some "__eq__")) := He.meth_ok (cD.fact 87 (f := .meth "Session" "__eq__") rfl)
  have me___str__ : Meth K (SC K) "__str__" (He.fAd K ("Session", some "__str__")) := He.meth_ok (cD.fact 88 (f := .meth "Session" "__str__") rfl)
  have me_put : Meth K (SC K) "put" (He.fAd K ("Session", some "put")) := He.meth_ok (cD.fact 89 (f := .meth "Session" "put") rfl)
  have me_total : Meth K (SC K) "total" (He.fAd K ("Session", some "total")) := He.meth_ok (cD.fact 90 (f := .meth "Session" "total") rfl)
  have me_paid : Meth K (SC K) "paid" (He.fAd K ("Session", some "paid")) := He.meth_ok (cD.fact 91 (f := .meth "Session" "paid") rfl)
  have me_undo : Meth K (SC K) "undo" (He.fAd K ("Session", some "undo")) := He.meth_ok (cD.fact 92 (f := .meth "Session" "undo") rfl)
  have me_redo : Meth K (SC K) "redo" (He.fAd K ("Session", some "redo")) := He.meth_ok (cD.fact 93 (f := .meth "Session" "redo") rfl)
  have M_total : MQ P w K mg base "total" 5 F_total := ⟨_, _, me_total, ok_total (toFunM F_Stotal) sC c_sum_of, (F_Stotal.bindsN fun _ _ _ _ _ _ us hl => match us, hl with | [_], _ => rfl)⟩
  have M_paid : MQ P w K mg base "paid" 10 F_paid := ⟨_, _, me_paid, ok_paid (toFunM F_Spaid) sC me_total (ok_total (toFunM F_Stotal) sC c_sum_of) (F_Stotal.bindsN fun _ _ _ _ _ _ us hl => match us, hl with | [_], _ => rfl) c_all_payments, (F_Spaid.bindsN fun _ _ _ _ _ _ us hl => match us, hl with | [_], _ => rfl)⟩
  have Sd : SesD K := exZES_s (exL0_ex c.more)
  have okPut := ok_put (P := P) (w := w) (base := base) g EF (toFunM F_Sput) sC me_total (ok_total (toFunM F_Stotal) sC c_sum_of) (F_Stotal.bindsN fun _ _ _ _ _ _ us hl => match us, hl with | [_], _ => rfl) me_paid (ok_paid (toFunM F_Spaid) sC me_total (ok_total (toFunM F_Stotal) sC c_sum_of) (F_Stotal.bindsN fun _ _ _ _ _ _ us hl => match us, hl with | [_], _ => rfl) c_all_payments) (F_Spaid.bindsN fun _ _ _ _ _ _ us hl => match us, hl with | [_], _ => rfl) c_X_check_amount c_plus c_is_amount c_minus
  have okUndo := ok_undo (P := P) (w := w) (base := base) EF (toFunM F_Sundo) sC
  have okRedo := ok_redo (P := P) (w := w) (base := base) EF (toFunM F_Sredo) sC
  have okInit := ok_init (P := P) (w := w) (base := base) (toFunM F_S__init__) sC c_X_check_ladder
  have M_put : MM P w K mg base "put" 11 1 ["self", "amount"] F_X_put := ⟨_, _, me_put, okPut, (F_Sput.bindsN fun _ _ _ _ _ _ us hl => match us, hl with | [_, _], _ => rfl)⟩
  have M_init : MI P w K mg base 6 F_X_init := ⟨_, _, mkS, okInit, mgS, (F_S__init__.bindsN fun _ _ _ _ _ _ us hl => match us, hl with | [_, _], _ => rfl)⟩
  have M___len__ : MQ P w K mg base "__len__" 1 F_len := ⟨_, _, me___len__, ok_len g (toFunM F_S__len__) sC, (F_S__len__.bindsN fun _ _ _ _ _ _ us hl => match us, hl with | [_], _ => rfl)⟩
  have M___str__ : MQ P w K mg base "__str__" 6 F_str := ⟨_, _, me___str__, ok_str g (toFunM F_S__str__) sC me_total (ok_total (toFunM F_Stotal) sC c_sum_of) (F_Stotal.bindsN fun _ _ _ _ _ _ us hl => match us, hl with | [_], _ => rfl), (F_S__str__.bindsN fun _ _ _ _ _ _ us hl => match us, hl with | [_], _ => rfl)⟩
  have M___eq__ : ME P w K mg base 1 := ⟨_, _, me___eq__, ok_eq g mgS (toFunM F_S__eq__) sC Sd, (F_S__eq__.bindsN fun _ _ _ _ _ _ us hl => match us, hl with | [_, _], _ => rfl)⟩
  obtain ⟨f_lc, fd_lc, F_lc, mg_lc⟩ := F_43
  obtain ⟨f_lo, fd_lo, F_lo, mg_lo⟩ := F_36
  have M_undo : MM P w K mg base "undo" 1 0 ["self"] F_X_undo := ⟨_, _, me_undo, okUndo, (F_Sundo.bindsN fun _ _ _ _ _ _ us hl => match us, hl with | [_], _ => rfl)⟩
  have M_save := cal_save (P := P) (w := w) (base := base) g F_31 sC c_ladder_text
  have M_load := cal_load (P := P) (w := w) (base := base) g F_32 sC M_init M_put M_undo EF c_X_parse_ladder
  have okLcS := ok_lcallS (P := P) (w := w) (base := base) (toFun F_lc) sC me_undo okUndo (F_Sundo.bindsN fun _ _ _ _ _ _ us hl => match us, hl with | [_], _ => rfl) me_redo okRedo (F_Sredo.bindsN fun _ _ _ _ _ _ us hl => match us, hl with | [_], _ => rfl) M_load
  have okLcD := ok_lcallD (P := P) (w := w) (base := base) (toFun F_lc) sC me_undo okUndo (F_Sundo.bindsN fun _ _ _ _ _ _ us hl => match us, hl with | [_], _ => rfl) me_redo okRedo (F_Sredo.bindsN fun _ _ _ _ _ _ us hl => match us, hl with | [_], _ => rfl) M_load
  have M_out : MO2 P w K mg base 14 (lcall2 F_X_undo F_X_redo) F__law_name := ⟨f_lo, fd_lo, ok_outS EF (toFun F_lo) okLcS mg_lc F_lc.kp (F_lc.bindsN fun _ _ _ _ _ _ us hl => match us, hl with | [_, _], _ => rfl) c__law_name, mg_lo, F_lo.kp, (F_lo.bindsN fun _ _ _ _ _ _ us hl => match us, hl with | [_, _], _ => rfl)⟩
  have M_outD : CalP P w K mg base "_law_outcome" 14 2 ["way", "arguments"] (outD F_load F__law_name) := ⟨f_lo, fd_lo, ok_outD EF (toFun F_lo) okLcD mg_lc F_lc.kp (F_lc.bindsN fun _ _ _ _ _ _ us hl => match us, hl with | [_, _], _ => rfl) c__law_name, mg_lo, F_lo.kp, (F_lo.bindsN fun _ _ _ _ _ _ us hl => match us, hl with | [_, _], _ => rfl)⟩
  exact ok_law (P := P) (w := w) (base := base) g Fl sC Sd M___eq__ M_init M___str__ M_load M_out M_outD M_paid M_put M_save M_total c__law_town c__law_ladder c__law_draw c__law_frac c__law_raises c__law_pick
end Sx
open PySem PySem.W PySem.Calls PyProof.Rows
theorem PySem.Challenge.cw_payladders_k62_saved_sessions_holds : PySem.Challenge.rw_payladders_k62_saved_sessions.Holds := by
  w_on; o_law
  refine HandSHeadRun.head_any (r := OpenLaw.row PySem.Challenge.rw_payladders_k62_saved_sessions) (q := view (OpenLaw.row PySem.Challenge.rw_payladders_k62_saved_sessions).prog [68]) (H := Sx.hk) (ob := Sx.ob) (M := 8000) (loose := Sx.loose) (d := HandSHeadRun.topDef (OpenLaw.row PySem.Challenge.rw_payladders_k62_saved_sessions).prog 68) (kwd := []) Sx.ob_eq
    (by kernel_rfl) (fun s => by kernel_rfl) Sx.run (by kernel_rfl) (by kernel_rfl) (by kernel_rfl) (by rfl) (by first | assumption | decide +kernel) (by decide +kernel) ⟨rfl, rfl, rfl, rfl, rfl, by decide +kernel⟩ ?hw ?hc
  case hw => w_witness2
  case hc =>
    refine L2.walk_ofE (l := PySem.Challenge.rw_payladders_k62_saved_sessions) (n := 63) (k := 15) (x := "script") (CX := L2.CX0) rfl (by decide) (by kernel_rfl) ⟨rfl, by decide, by decide⟩ ?F (fun _ _ _ _ z => z)
    intro w mg fa h Y G hmg0
    obtain ⟨K, KX, c⟩ := Y
    have hmg : mg ("law" : PySem.Str) = some (.ref fa) := by
      have e : (HandSHeadRun.topDef (OpenLaw.row PySem.Challenge.rw_payladders_k62_saved_sessions).prog 68).name = ("law" : PySem.Str) := by kernel_rfl
      rw [← e]
      exact hmg0
    obtain ⟨fd, hb, hF⟩ := Sx.facts (P := (PySem.Challenge.rw_payladders_k62_saved_sessions).prog) (w := w) KX G hmg c
    exact ⟨K, fd, _, KX, hb, fun H a ns hl _ hS => Sx.law_end (Sx.law_true ns hl) (Sx.exL0_tabs c.more) hS, hF⟩
