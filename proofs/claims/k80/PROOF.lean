import PyProof.Rows.All
import Wide.All
import OpenK.AllK
import Wide.FinOn
import KE.KStateDown
import KE.KNestM
import Lean
import HandS.ForMost
import HandS.Exc
import HandS.ExcInit
import HandS.Defaults
import HandS.Head0
import HandS.Head1
import HandS.Head2
import HandS.Head3
import HandS.HeadHook1
import HandS.HeadHook2
import HandS.HeadHook3
import HandS.HeadHook4
import HandS.HeadWalk
import HandS.Wide
import HandS.Gcd
import HandS.Style
import HandS.TupAny
import HandS.Conv
import HandS.IsInst
import HandS.Deep
import HandS.NoneIn
import HandS.Small
import HandS.TryMany
import HandS.ExcField
import HandS.Nested
import HandS.Iter
import HandS.Zip
import HandS.DictComp
import KE.KDictZip
import HandS.Steps
import HandS.ListItems
import HandS.WordsDict
import HandS.TupLen
import KE.KSortTupUse
import HandS.TupSets
import HandS.Evl
import HandS.Text
import HandS.WordsExc
import HandS.EndTab
import HandS.ExcBuiltin
import HandS.DictEq
import KE.KEqDict
import PyProof.Rows.IntOr
import HandS.RaiseOp
import PySem.Challenge.RW_breakplans_k80_whole_breaking_clocks
set_option Elab.async false
set_option linter.all false
set_option maxRecDepth 100000
set_option exponentiation.threshold 9000
set_option maxHeartbeats 0
namespace K80
open PySem PySem.Spec PyProof.Rows L2
def topS (i : Nat) : Stmt := PySem.Challenge.pw_breakplans_k80_whole_breaking_clocks.main.body.getD i (.Pass ⟨0, 0, 0, 0⟩)
/-- the i-th statement of a class's body -/
def clsBody : Stmt → List Stmt
  | .ClassDef _ _ _ b _ _ _ _ _ _ _ => b
  | _ => []
end K80

set_option maxHeartbeats 0
namespace K80
open PySem PySem.Spec PyProof.Rows L2

def fn : List He.DefD := [
  ⟨("BadFar", some "__init__"), "__init__", "BadFar.__init__", defArgs (inClass (topS 3) 0), defBody (inClass (topS 3) 0), defScope (inClass (topS 3) 0), [], []⟩,
  ⟨("BadReading", some "__init__"), "__init__", "BadReading.__init__", defArgs (inClass (topS 6) 0), defBody (inClass (topS 6) 0), defScope (inClass (topS 6) 0), [], []⟩,
  ⟨("is_list", none), "is_list", "is_list", defArgs (topS 13), defBody (topS 13), defScope (topS 13), [], []⟩,
  ⟨("is_integer", none), "is_integer", "is_integer", defArgs (topS 14), defBody (topS 14), defScope (topS 14), [], []⟩,
  ⟨("is_name", none), "is_name", "is_name", defArgs (topS 15), defBody (topS 15), defScope (topS 15), [], []⟩,
  ⟨("checked_hands", none), "checked_hands", "checked_hands", defArgs (topS 16), defBody (topS 16), defScope (topS 16), [], []⟩,
  ⟨("is_hand_of", none), "is_hand_of", "is_hand_of", defArgs (topS 17), defBody (topS 17), defScope (topS 17), [], []⟩,
  ⟨("lowest", none), "lowest", "lowest", defArgs (topS 19), defBody (topS 19), defScope (topS 19), [], []⟩,
  ⟨("less", none), "less", "less", defArgs (topS 20), defBody (topS 20), defScope (topS 20), [], []⟩,
  ⟨("is_below", none), "is_below", "is_below", defArgs (topS 21), defBody (topS 21), defScope (topS 21), [], []⟩,
  ⟨("kept_fraction", none), "kept_fraction", "kept_fraction", defArgs (topS 22), defBody (topS 22), defScope (topS 22), [], []⟩,
  ⟨("kept_reading", none), "kept_reading", "kept_reading", defArgs (topS 23), defBody (topS 23), defScope (topS 23), [], []⟩,
  ⟨("checked_reading", none), "checked_reading", "checked_reading", defArgs (topS 24), defBody (topS 24), defScope (topS 24), [], []⟩,
  ⟨("are_two", none), "are_two", "are_two", defArgs (topS 25), defBody (topS 25), defScope (topS 25), [], []⟩,
  ⟨("are_bounds", none), "are_bounds", "are_bounds", defArgs (topS 26), defBody (topS 26), defScope (topS 26), [], []⟩,
  ⟨("checked_log_roads", none), "checked_log_roads", "checked_log_roads", defArgs (topS 27), defBody (topS 27), defScope (topS 27), [], []⟩,
  ⟨("checked_log_letters", none), "checked_log_letters", "checked_log_letters", defArgs (topS 28), defBody (topS 28), defScope (topS 28), [], []⟩,
  ⟨("direct_shifts", none), "direct_shifts", "direct_shifts", defArgs (topS 29), defBody (topS 29), defScope (topS 29), [], []⟩,
  ⟨("least_sums", none), "least_sums", "least_sums", defArgs (topS 30), defBody (topS 30), defScope (topS 30), [], []⟩,
  ⟨("all_rings", none), "all_rings", "all_rings", defArgs (topS 31), defBody (topS 31), defScope (topS 31), [], []⟩,
  ⟨("ring_sum", none), "ring_sum", "ring_sum", defArgs (topS 32), defBody (topS 32), defScope (topS 32), [], []⟩,
  ⟨("Log", some "__init__"), "__init__", "Log.__init__", defArgs (inClass (topS 33) 0), defBody (inClass (topS 33) 0), defScope (inClass (topS 33) 0), [], []⟩,
  ⟨("Log", some "hands"), "hands", "Log.hands", defArgs (inClass (topS 33) 1), defBody (inClass (topS 33) 1), defScope (inClass (topS 33) 1), [], []⟩,
  ⟨("Log", some "roads"), "roads", "Log.roads", defArgs (inClass (topS 33) 2), defBody (inClass (topS 33) 2), defScope (inClass (topS 33) 2), [], []⟩,
  ⟨("Log", some "letters"), "letters", "Log.letters", defArgs (inClass (topS 33) 3), defBody (inClass (topS 33) 3), defScope (inClass (topS 33) 3), [], []⟩,
  ⟨("checked_pair", none), "checked_pair", "checked_pair", defArgs (topS 34), defBody (topS 34), defScope (topS 34), [], []⟩,
  ⟨("apart", none), "apart", "apart", defArgs (topS 35), defBody (topS 35), defScope (topS 35), [], []⟩,
  ⟨("free_offsets", none), "free_offsets", "free_offsets", defArgs (topS 37), defBody (topS 37), defScope (topS 37), [], []⟩,
  ⟨("far_offsets", none), "far_offsets", "far_offsets", defArgs (topS 38), defBody (topS 38), defScope (topS 38), [], []⟩,
  ⟨("all_pairs", none), "all_pairs", "all_pairs", defArgs (topS 39), defBody (topS 39), defScope (topS 39), [], []⟩,
  ⟨("slack", none), "slack", "slack", defArgs (topS 40), defBody (topS 40), defScope (topS 40), [], []⟩,
  ⟨("farthest", none), "farthest", "farthest", defArgs (topS 41), defBody (topS 41), defScope (topS 41), [], []⟩,
  ⟨("best_ring", none), "best_ring", "best_ring", defArgs (topS 42), defBody (topS 42), defScope (topS 42), [], []⟩,
  ⟨("best_bound", none), "best_bound", "best_bound", defArgs (topS 43), defBody (topS 43), defScope (topS 43), [], []⟩,
  ⟨("corrected", none), "corrected", "corrected", defArgs (topS 44), defBody (topS 44), defScope (topS 44), [], []⟩,
  ⟨("told_log", none), "told_log", "told_log", defArgs (topS 45), defBody (topS 45), defScope (topS 45), [], []⟩,
  ⟨("loose_pair", none), "loose_pair", "loose_pair", defArgs (topS 46), defBody (topS 46), defScope (topS 46), [], []⟩,
  ⟨("break_clocks", none), "break_clocks", "break_clocks", defArgs (topS 47), defBody (topS 47), defScope (topS 47), [.int 0], []⟩,
  ⟨("_law_start", none), "_law_start", "_law_start", defArgs (topS 49), defBody (topS 49), defScope (topS 49), [], []⟩,
  ⟨("_law_draw", none), "_law_draw", "_law_draw", defArgs (topS 50), defBody (topS 50), defScope (topS 50), [], []⟩,
  ⟨("_law_pick", none), "_law_pick", "_law_pick", defArgs (topS 51), defBody (topS 51), defScope (topS 51), [], []⟩,
  ⟨("_law_mixed", none), "_law_mixed", "_law_mixed", defArgs (topS 52), defBody (topS 52), defScope (topS 52), [], []⟩,
  ⟨("_law_same", none), "_law_same", "_law_same", defArgs (topS 53), defBody (topS 53), defScope (topS 53), [], []⟩,
  ⟨("_law_hands", none), "_law_hands", "_law_hands", defArgs (topS 54), defBody (topS 54), defScope (topS 54), [], []⟩,
  ⟨("_law_cl_low", none), "_law_cl_low", "_law_cl_low", defArgs (topS 55), defBody (topS 55), defScope (topS 55), [], []⟩,
  ⟨("_law_cl_less", none), "_law_cl_less", "_law_cl_less", defArgs (topS 56), defBody (topS 56), defScope (topS 56), [], []⟩,
  ⟨("_law_cl_below", none), "_law_cl_below", "_law_cl_below", defArgs (topS 57), defBody (topS 57), defScope (topS 57), [], []⟩,
  ⟨("_law_cl_pairs", none), "_law_cl_pairs", "_law_cl_pairs", defArgs (topS 58), defBody (topS 58), defScope (topS 58), [], []⟩,
  ⟨("_law_cl_roads", none), "_law_cl_roads", "_law_cl_roads", defArgs (topS 59), defBody (topS 59), defScope (topS 59), [], []⟩,
  ⟨("_law_cl_seen", none), "_law_cl_seen", "_law_cl_seen", defArgs (topS 60), defBody (topS 60), defScope (topS 60), [], []⟩,
  ⟨("_law_cl_offsets", none), "_law_cl_offsets", "_law_cl_offsets", defArgs (topS 61), defBody (topS 61), defScope (topS 61), [], []⟩,
  ⟨("_law_cl_drawn", none), "_law_cl_drawn", "_law_cl_drawn", defArgs (topS 62), defBody (topS 62), defScope (topS 62), [], []⟩,
  ⟨("_law_cl_direct", none), "_law_cl_direct", "_law_cl_direct", defArgs (topS 63), defBody (topS 63), defScope (topS 63), [], []⟩,
  ⟨("_law_cl_fars", none), "_law_cl_fars", "_law_cl_fars", defArgs (topS 64), defBody (topS 64), defScope (topS 64), [], []⟩,
  ⟨("_law_cl_rings", none), "_law_cl_rings", "_law_cl_rings", defArgs (topS 65), defBody (topS 65), defScope (topS 65), [], []⟩,
  ⟨("_law_cl_round", none), "_law_cl_round", "_law_cl_round", defArgs (topS 66), defBody (topS 66), defScope (topS 66), [], []⟩,
  ⟨("_law_cl_can", none), "_law_cl_can", "_law_cl_can", defArgs (topS 67), defBody (topS 67), defScope (topS 67), [], []⟩,
  ⟨("_law_cl_apart", none), "_law_cl_apart", "_law_cl_apart", defArgs (topS 68), defBody (topS 68), defScope (topS 68), [], []⟩,
  ⟨("_law_cl_plain", none), "_law_cl_plain", "_law_cl_plain", defArgs (topS 69), defBody (topS 69), defScope (topS 69), [], []⟩,
  ⟨("_law_cl_is_reading", none), "_law_cl_is_reading", "_law_cl_is_reading", defArgs (topS 70), defBody (topS 70), defScope (topS 70), [], []⟩,
  ⟨("_law_cl_log", none), "_law_cl_log", "_law_cl_log", defArgs (topS 71), defBody (topS 71), defScope (topS 71), [], []⟩,
  ⟨("_law_cl_bound", none), "_law_cl_bound", "_law_cl_bound", defArgs (topS 72), defBody (topS 72), defScope (topS 72), [], []⟩,
  ⟨("_law_met", none), "_law_met", "_law_met", defArgs (topS 73), defBody (topS 73), defScope (topS 73), [], []⟩,
  ⟨("_law_told_log", none), "_law_told_log", "_law_told_log", defArgs (topS 74), defBody (topS 74), defScope (topS 74), [], []⟩,
  ⟨("_law_correction", none), "_law_correction", "_law_correction", defArgs (topS 75), defBody (topS 75), defScope (topS 75), [], []⟩,
  ⟨("_law_broken_right", none), "_law_broken_right", "_law_broken_right", defArgs (topS 76), defBody (topS 76), defScope (topS 76), [], []⟩,
  ⟨("law", none), "law", "law", defArgs (topS 77), defBody (topS 77), defScope (topS 77), [], []⟩]
def fa : List He.Fa := [
  .glo "is_list",
  .glo "is_integer",
  .glo "is_name",
  .glo "checked_hands",
  .glo "is_hand_of",
  .glo "lowest",
  .glo "less",
  .glo "is_below",
  .glo "kept_fraction",
  .glo "kept_reading",
  .glo "checked_reading",
  .glo "are_two",
  .glo "are_bounds",
  .glo "checked_log_roads",
  .glo "checked_log_letters",
  .glo "direct_shifts",
  .glo "least_sums",
  .glo "all_rings",
  .glo "ring_sum",
  .glo "checked_pair",
  .glo "apart",
  .glo "free_offsets",
  .glo "far_offsets",
  .glo "all_pairs",
  .glo "slack",
  .glo "farthest",
  .glo "best_ring",
  .glo "best_bound",
  .glo "corrected",
  .glo "told_log",
  .glo "loose_pair",
  .glo "break_clocks",
  .glo "_law_start",
  .glo "_law_draw",
  .glo "_law_pick",
  .glo "_law_mixed",
  .glo "_law_same",
  .glo "_law_hands",
  .glo "_law_cl_low",
  .glo "_law_cl_less",
  .glo "_law_cl_below",
  .glo "_law_cl_pairs",
  .glo "_law_cl_roads",
  .glo "_law_cl_seen",
  .glo "_law_cl_offsets",
  .glo "_law_cl_drawn",
  .glo "_law_cl_direct",
  .glo "_law_cl_fars",
  .glo "_law_cl_rings",
  .glo "_law_cl_round",
  .glo "_law_cl_can",
  .glo "_law_cl_apart",
  .glo "_law_cl_plain",
  .glo "_law_cl_is_reading",
  .glo "_law_cl_log",
  .glo "_law_cl_bound",
  .glo "_law_met",
  .glo "_law_told_log",
  .glo "_law_correction",
  .glo "_law_broken_right",
  .glo "law",
  .glo "Log",
  .glo "BadFar",
  .glo "BadReading",
  .free "isinstance",
  .free "list",
  .free "tuple",
  .free "int",
  .free "bool",
  .free "str",
  .free "dict",
  .free "len",
  .free "all",
  .free "any",
  .free "enumerate",
  .free "sorted",
  .free "zip",
  .free "range",
  .free "min",
  .free "max",
  .free "sum",
  .free "abs",
  .free "ord",
  .free "ZeroDivisionError",
  .free "ValueError",
  .str "SMALL" "abcdefghijklmnopqrstuvwxyz",
  .str "FIGURES" "0123456789",
  .cls "Log",
  .mkr "Log",
  .meth "Log" "hands",
  .meth "Log" "roads",
  .meth "Log" "letters",
  .noat "Log" "own_hands",
  .noat "Log" "own_roads",
  .noat "Log" "own_letters",
  .noat "Log" "direct",
  .noat "Log" "far",
  .noat "BadFar" "thing",
  .noat "BadReading" "thing",
  .keep "BadFar",
  .keep "BadReading",
  .exm "BadFar" "BadFar" true,
  .exm "BadFar" "BadReading" false,
  .exm "BadReading" "BadFar" false,
  .exm "BadReading" "BadReading" true]

def oexB (K : PySem.W.Frag) (C : Addr) : Bool := (match K.lookup C with
  | some ⟨.type "type", _, .cls cd, sl⟩ => (match cd.mro, sl.toList with
    | .ref C' :: bm, [_, _, _, _, some (.builtin n), _] => C' == C && n == "ValueError.__new__" && !cd.hasDel && PySem.HandSPX.refsVE bm && cd.hasDict
    | _, _ => false)
  | _ => false) && (decide (PySem.W.findIn K (.ref C) "__setattr__" = some (some (.builtin "object.__setattr__"))) && (decide (PySem.W.subIn K (.ref C) (.type "BaseException") = some true) && (decide (PySem.W.typeIn K (.ref C) = some (.type "type")) && (PySem.W.keepIn K (.ref C) &&
  (decide (PySem.W.findIn K (.ref C) "__init__" = some (some (.ref (He.ma K C "__init__")))) && (decide (PySem.W.typeIn K (.ref (He.ma K C "__init__")) = some (.type "function")) &&
  (decide (PySem.W.findIn K (.ref C) "__getattribute__" = some (some (.builtin "BaseException.__getattribute__"))) && (decide (PySem.W.findIn K (.ref C) "__getattr__" = some none) && PySem.W.hasDictIn K C))))))))
def exX (K : PySem.W.Frag) : Bool := decide (PySem.W.nsIn K mainGlobals "gcd" = some (some (.builtin "math.gcd"))) && (oexB K (He.ga K "BadFar") && (oexB K (He.ga K "BadReading") &&
  (decide (PySem.W.exmOne K (.type "ZeroDivisionError") (.ref (He.ga K "BadFar")) = some false) && (decide (PySem.W.exmOne K (.type "ZeroDivisionError") (.ref (He.ga K "BadReading")) = some false)))))
def tf : List He.Defn := [("law", none)]
abbrev R : PySem.W.OpenRow := PySem.W.OpenLaw.row PySem.Challenge.rw_breakplans_k80_whole_breaking_clocks
abbrev hk : PySem.W.Hook := He.hookX 4 fa fn [] tf exX
def ob (s : PySem.W.SharedT) : He.AlX := He.obsX 4 fa fn [] tf exX (HandSHeadRun.getT s)
theorem ob_eq (s : PySem.W.SharedT) : ob s = hk.obs s.abs := He.obsX_eq (HandSHeadRun.getT_eq s)

def names0 : List PySem.Str := ["PlanError", "BadFar", "BadHands", "BadLetter", "BadReading", "BadRoads", "NoHand", "Torn", "SMALL", "FIGURES", "is_list", "is_integer", "is_name", "checked_hands", "is_hand_of", "lowest", "less", "is_below", "kept_fraction", "kept_reading", "checked_reading", "are_two", "are_bounds", "checked_log_roads", "checked_log_letters", "direct_shifts", "least_sums", "all_rings", "ring_sum", "Log"]
def names1 : List PySem.Str := ["checked_pair", "apart", "free_offsets", "far_offsets", "all_pairs", "slack", "farthest", "best_ring", "best_bound", "corrected", "told_log", "loose_pair", "break_clocks", "_law_start", "_law_draw", "_law_pick", "_law_mixed", "_law_same", "_law_hands", "_law_cl_low", "_law_cl_less", "_law_cl_below", "_law_cl_pairs", "_law_cl_roads", "_law_cl_seen", "_law_cl_offsets", "_law_cl_drawn", "_law_cl_direct", "_law_cl_fars", "_law_cl_rings"]
def names2 : List PySem.Str := ["_law_cl_round", "_law_cl_can", "_law_cl_apart", "_law_cl_plain", "_law_cl_is_reading", "_law_cl_log", "_law_cl_bound", "_law_met", "_law_told_log", "_law_correction", "_law_broken_right"]
def names : List PySem.Str := names0 ++ names1 ++ names2
abbrev qv : Program := PySem.W.view R.prog [0, 77]

theorem run (w : World) : HandSHeadRun.RunEqI R qv hk ob 20000 names w := by
  unfold HandSHeadRun.RunEqI
  kernel_rfl
end K80

set_option maxHeartbeats 4000000
namespace K80
open PySem PySem.Spec PyProof.Rows L2
/-- what is known of the text behind the top -/
structure Txt (K : PySem.W.Frag) (mg : Str → Option Value) : Prop where
  glo : ∀ x, He.Fa.glo x ∈ fa → mg x = some (.ref (He.ga K x))
  f_isinstance : mg "isinstance" = none
  f_list : mg "list" = none
  f_tuple : mg "tuple" = none
  f_int : mg "int" = none
  f_bool : mg "bool" = none
  f_str : mg "str" = none
  f_dict : mg "dict" = none
  f_len : mg "len" = none
  f_all : mg "all" = none
  f_any : mg "any" = none
  f_enumerate : mg "enumerate" = none
  f_sorted : mg "sorted" = none
  f_zip : mg "zip" = none
  f_range : mg "range" = none
  f_min : mg "min" = none
  f_max : mg "max" = none
  f_sum : mg "sum" = none
  f_abs : mg "abs" = none
  f_ord : mg "ord" = none
  f_ZeroDivisionError : mg "ZeroDivisionError" = none
  f_ValueError : mg "ValueError" = none
  says : He.SaysD fa fn K
  smallx : ∃ t, mg "SMALL" = some (.str "abcdefghijklmnopqrstuvwxyz" t)
  figuresx : ∃ t, mg "FIGURES" = some (.str "0123456789" t)
  more : exX K = true
  gcd : mg "gcd" = some (.builtin "math.gcd")
/-- a def of the text that keeps a promise, as a caller wants it -/
structure CallOk (P : Program) (w : World) (K : PySem.W.Frag) (mg : Str → Option Value) (base : Heap) (CX : CXT) (k : Nat) (x : Str) (ps : List Str) (dvs : List V) (sp : Sp) : Prop where
  ex : ∃ (f : Addr) (fd : FuncData) (ds : List Value), FnOk P w K mg base CX k f fd ps sp ∧ mg x = some (.ref f) ∧ PySem.W.keepIn K (.ref f) = true ∧ Binds K fd ps ds ∧ Vals dvs ds
section
variable {X : Cx} {CX : CXT} {k : Nat} {ps : List Str} {sp : Sp} {dvs : List V} {E : XK} {x : Str} {p pos : Pos} {e : Expr} {es : List Expr} {t : TA}
theorem pe_callT (C : CallOk X.prog X.w X.K X.mg X.base CX k x ps dvs sp) (hr : Room k X.A) (hg : Gl X x) (hx : Passes CX X E) (ha : PA X (e :: es) t)
    (hdb : (x == ("__debug__" : Str)) = false := by decide) (he : starEach (e :: es) X.env = (false, eval e X.env) :: starEach es X.env := by rfl) (hpl : (backTo pos (starEach es X.env)).any (·.1) = false := by rfl) :
    PE X (.Call (.Name x p) (e :: es) [] pos) (tCall sp dvs E t) := by
  obtain ⟨f, fd, ds, F, hm, hk, hb, hd⟩ := C.ex
  exact pe_call F hr hg hm hk hb hd hx ha hdb he hpl
end
theorem mem_of {α : Type} {l : List α} {a : α} (i : Nat) (h : l[i]? = some a) : a ∈ l := List.mem_of_getElem? h
section
variable {P : Program} {w : World} {K : PySem.W.Frag} {mg : Str → Option Value} {base : Heap}
/-- a def of no default, by its body -/
theorem def_ok {CX : CXT} {N ps : List Str} {k : Nat} {sp : Sp} {x : Str} {st : Stmt} (T : Txt K mg) (i j : Nat) (hi : fn[i]? = some ⟨(x, none), x, x, defArgs st, defBody st, defScope st, [], []⟩) (hj : fa[j]? = some (.glo x)) (S : FnScope N ps (defScope st))
    (hbind : ∀ (kV doc pm : Value) (an : Option Addr) (cdv ct : Value) (us : List Value), us.length = ps.length → bindArgs (PySem.W.fnOf x x (defArgs st) (defBody st) (defScope st) .none kV doc pm an cdv ct) ⟨us, []⟩ = pure (ps.zip us))
    (len : ∀ vs H Q E, sp vs H Q E → vs.length = ps.length)
    (hbody : ∀ (cdv : Value) (f : Addr) (A : Around) (outer : List Env) (s : Shared) (H : Hp) (vs : List V) (Q : VK) (E : XK), Room k (A.deeper (envOfC x (defScope st) s.heap.objs.size f cdv)) → sp vs H Q E →
      ∃ t, PSs (cxOf CX P w K mg base N x (defScope st) f cdv A outer s H E) (defBody st) t ∧ t { nx := fun _ H' => Q .non H', rt := Q } (start N vs) H) : CallOk P w K mg base CX (k + 1) x ps [] sp := by
  obtain ⟨fd, F⟩ := T.says.def_ i hi
  refine ⟨_, fd, [], F.ok S len (fun cdv A outer s H vs Q E => hbody cdv _ A outer s H vs Q E), T.glo x (mem_of j hj), F.kp, F.bindsN hbind, .nil⟩
end
theorem same_new {H : Hp} {p : Addr} {o : HO} (h : H p = none) : Same H (upd H p o) := fun b x e => by
  rw [upd_ne (ne_of_none e h)]
  exact e
theorem same_mut {H0 H : Hp} {p : Addr} {o : HO} (h : Same H0 H) (n : H0 p = none) : Same H0 (upd H p o) := fun b x e => by
  rw [upd_ne (ne_of_none e n)]
  exact h b x e
/-! ### fractions -/
def lowF (a b : Int) : Int × Int := (a / ((Nat.gcd a.natAbs b.natAbs : Nat) : Int), b / ((Nat.gcd a.natAbs b.natAbs : Nat) : Int))
end K80

set_option maxHeartbeats 4000000
namespace K80
open PySem PySem.Spec L2
open PyProof.Rows hiding St
/-! ### paired lists -/
section
variable {α β γ : Type}
theorem pr_get {F : α → β → Prop} {l₁ : List α} {l₂ : List β} (h : Paired F l₁ l₂) : ∀ {i : Nat} {b : β}, l₂[i]? = some b → ∃ a, l₁[i]? = some a ∧ F a b := by
  induction h with
  | nil => intro i b e; simp at e
  | cons h _ ih =>
    intro i b e
    cases i with
    | zero => simp at e; exact ⟨_, rfl, e ▸ h⟩
    | succ i => exact ih (by simpa using e)
theorem pr_getL {F : α → β → Prop} {l₁ : List α} {l₂ : List β} (h : Paired F l₁ l₂) : ∀ {i : Nat} {a : α}, l₁[i]? = some a → ∃ b, l₂[i]? = some b ∧ F a b := by
  induction h with
  | nil => intro i b e; simp at e
  | cons h _ ih =>
    intro i b e
    cases i with
    | zero => simp at e; exact ⟨_, rfl, e ▸ h⟩
    | succ i => exact ih (by simpa using e)
theorem pr_mono {F G : α → β → Prop} {l₁ : List α} {l₂ : List β} (h : Paired F l₁ l₂) (m : ∀ a b, F a b → G a b) : Paired G l₁ l₂ := by
  induction h with
  | nil => exact .nil
  | cons h _ ih => exact .cons (m _ _ h) ih
theorem pr_app {F : α → β → Prop} {l₁ m₁ : List α} {l₂ m₂ : List β} (h : Paired F l₁ l₂) (h' : Paired F m₁ m₂) : Paired F (l₁ ++ m₁) (l₂ ++ m₂) := by
  induction h with
  | nil => exact h'
  | cons h _ ih => exact .cons h ih
theorem pr_map (f : β → α) : ∀ l : List β, Paired (fun a b => a = f b) (l.map f) l
  | [] => .nil
  | _ :: l => .cons rfl (pr_map f l)
theorem pr_eq (f : β → α) {l₁ : List α} {l₂ : List β} (h : Paired (fun a b => a = f b) l₁ l₂) : l₁ = l₂.map f := by
  induction h with
  | nil => rfl
  | cons h _ ih => rw [h, ih]; rfl
theorem pr_mapR {F : α → γ → Prop} (f : β → γ) {l₁ : List α} {l₂ : List β} (h : Paired (fun a b => F a (f b)) l₁ l₂) : Paired F l₁ (l₂.map f) := by
  induction h with
  | nil => exact .nil
  | cons h _ ih => exact .cons h ih
theorem pr_take {F : α → β → Prop} {l₁ : List α} {l₂ : List β} (h : Paired F l₁ l₂) : ∀ n, Paired F (l₁.take n) (l₂.take n) := by
  induction h with
  | nil => intro n; simp; exact .nil
  | cons h _ ih => intro n; cases n with
    | zero => exact .nil
    | succ n => exact .cons h (ih n)
theorem pr_in {F : α → β → Prop} {l₁ : List α} {l₂ : List β} (h : Paired F l₁ l₂) : ∀ {b : β}, b ∈ l₂ → ∃ a, a ∈ l₁ ∧ F a b := by
  induction h with
  | nil => intro b e; cases e
  | cons h _ ih =>
    intro b e
    cases e with
    | head => exact ⟨_, List.mem_cons_self, h⟩
    | tail _ e => obtain ⟨a, h1, h2⟩ := ih e; exact ⟨a, List.mem_cons_of_mem _ h1, h2⟩
theorem take_succ' {l : List α} {i : Nat} {a : α} (h : l[i]? = some a) : l.take (i + 1) = l.take i ++ [a] := by
  rw [List.take_add_one, h]; rfl
theorem filterMap_take_succ {p : α → Bool} {f : α → β} {l : List α} {i : Nat} {a : α} (h : l[i]? = some a) :
    ((l.take (i + 1)).filter p).map f = ((l.take i).filter p).map f ++ (if p a then [f a] else []) := by
  rw [take_succ' h, List.filter_append, List.map_append]
  by_cases c : p a <;> simp [c]
end
/-! ### heaps -/
/-- tuples stay -/
def KeepT (H H' : Hp) : Prop := ∀ b xs, H b = some (.tup xs) → H' b = some (.tup xs)
theorem keepT_same {H H' : Hp} (h : Same H H') : KeepT H H' := fun b _ e => h b _ e
theorem keepT_upd {H : Hp} {p : Addr} {o o' : HO} (h : H p = some o') (n : ∀ xs, o' ≠ .tup xs) : KeepT H (upd H p o) := fun b xs e => by
  rw [upd_ne (ne_of e h fun z => n xs z.symm)]
  exact e
theorem KeepT.trans {H H1 H2 : Hp} (a : KeepT H H1) (b : KeepT H1 H2) : KeepT H H2 := fun c xs e => b c xs (a c xs e)
/-- all but the object at D stays -/
def SameB (D : Addr) (H H' : Hp) : Prop := ∀ b o, b ≠ D → H b = some o → H' b = some o
/-! ### loops -/
section
variable {K : PySem.W.Frag} {a : Addr} {xs : List V} {g : TG} {tb : TS} {D : Ends} {σ : St} {H : Hp}
theorem for_enum (Pv : Nat → St → Hp → Prop) (h0 : Pv 0 σ H) (hl : ∀ i σ H, i ≤ xs.length → Pv i σ H → SqL K H a xs)
    (hs : ∀ i x T σ H, xs[i]? = some x → Pv i σ H → H T = none → g (.ref T) σ (upd H T (.tup [.int (i : Nat), x])) fun σ2 H2 => tb { D with nx := Pv (i + 1), ct := Pv (i + 1), bk := D.nx } σ2 H2) (hd : ∀ σ H, Pv xs.length σ H → D.nx σ H) :
    ∃ W : Nat → Nat → St → Hp → Prop, (∃ m, W 0 m σ H) ∧ ∀ i m σ H, W i m σ H →
      ((Ite K a).stop i H ∧ D.nx σ H) ∨ ((Ite K a).go i H ∧ ∃ N : St → Hp → Prop, (∀ σ' H', N σ' H' → ∃ m', m' < m ∧ W (i + 1) m' σ' H') ∧ ∀ x H', (Ite K a).yld i H x H' → g x σ H' fun σ2 H2 => tb { D with nx := N, ct := N, bk := D.nx } σ2 H2) := by
  refine ⟨fun i m σ H => i + m = xs.length ∧ Pv i σ H, ⟨xs.length, by omega, h0⟩, fun i m σ H hW => ?_⟩
  obtain ⟨e, hP⟩ := hW
  have hA := hl i σ H (by omega) hP
  by_cases hi : i < xs.length
  · refine .inr ⟨⟨xs, xs[i], hA, List.getElem?_eq_getElem hi⟩, Pv (i + 1), fun σ' H' hn => ⟨m - 1, by omega, by omega, hn⟩, fun v H' hy => ?_⟩
    obtain ⟨T, x, rfl, nT, rfl, hx⟩ := hy
    exact hs i x T σ H (hx xs hA) hP nT
  · have : i = xs.length := by omega
    subst this
    exact .inl ⟨⟨xs, hA, Nat.le_refl _⟩, hd σ H hP⟩
end
/-! ### comprehensions whose elements leave what stands -/
section
variable {K : PySem.W.Frag} {a b : Addr} {xs zs : List V} {g g1 : TG} {tt tt1 : TT} {te tk tv : TE} {vs vs1 : List Nat} {σ : St} {H1 : Hp} {Q : VK} {α β γ : Type}
/-- over a list of items as: the items that p takes, by f -/
theorem lcp {as : List α} (A : Hp → V → α → Prop) (B : Hp → V → β → Prop) (p : α → Bool) (f : α → β)
    (sA : ∀ H H' v u, Same H H' → A H v u → A H' v u) (sB : ∀ H H' v u, KeepT H H' → B H v u → B H' v u)
    (hS : SqL K H1 a xs) (hA : Paired (A H1) xs as) (hz : xs.length ≤ 1000)
    (turn : ∀ (i : Nat) (x : V) (u : α) (H : Hp) (QF : Hp → Prop) (QT : V → Hp → Prop), as[i]? = some u → A H x u → Same H1 H → (p u = false → ∀ H', Same H H' → QF H') → (p u = true → ∀ y H', Same H H' → B H' y (f u) → QT y H') →
      g x (wipe σ vs) H fun σ2 H2 => wipe σ2 vs = wipe σ vs ∧ tt σ2 H2 fun c H3 => if c = true then te σ2 H3 QT else QF H3)
    (fin : ∀ D ys H', Same H1 H' → H1 D = none → H' D = some (.lst ys) → Paired (B H') ys ((as.filter p).map f) → Q (.ref D) H') :
    ∀ D, H1 D = none → ∃ W : Nat → Nat → Hp → Prop, (∃ m, W 0 m (upd H1 D (.lst []))) ∧ ∀ i m H, W i m H →
      ((Itl K a).stop i H ∧ Q (.ref D) H) ∨ ((Itl K a).go i H ∧ ∃ Nx : Hp → Prop, (∀ H', Nx H' → ∃ m', m' < m ∧ W (i + 1) m' H') ∧ ∀ x H', (Itl K a).yld i H x H' → g x (wipe σ vs) H' fun σ2 H2 => wipe σ2 vs = wipe σ vs ∧ tt σ2 H2 fun b H3 =>
        if b = true then te σ2 H3 fun y H4 => ∃ acc, H4 D = some (.lst acc) ∧ acc.length < sizeLine ∧ Nx (upd H4 D (.lst (acc ++ [y]))) else Nx H3) := by
  intro D nD
  refine lc_list (K := K) (a := a) (xs := xs) (fun i H => Same H1 H ∧ ∃ ys, H D = some (.lst ys) ∧ ys.length ≤ i ∧ Paired (B H) ys (((as.take i).filter p).map f)) ?_ ?_ ?_ ?_
  · exact ⟨same_new nD, [], upd_same, Nat.le_refl _, .nil⟩
  · intro i H _ ⟨s, _⟩
    exact s.seq hS
  · intro i x H hx ⟨s, ys, hD, hl, hP⟩
    obtain ⟨u, hu, hAu⟩ := pr_getL hA hx
    have hi : i < xs.length := by
      rw [List.getElem?_eq_some_iff] at hx
      exact hx.1
    refine turn i x u H _ _ hu (sA _ _ _ _ s hAu) s (fun c H' s' => ?_) (fun c y H' s' hB => ?_)
    · refine ⟨s.trans s', ys, s' _ _ hD, by omega, ?_⟩
      rw [filterMap_take_succ hu, c]
      simp
      exact pr_mono hP fun v w h => sB _ _ _ _ (keepT_same s') h
    · have hD' : H' D = some (.lst ys) := s' _ _ hD
      have kt : KeepT H' (upd H' D (.lst (ys ++ [y]))) := keepT_upd hD' (fun _ z => by cases z)
      refine ⟨ys, hD', small1000 (by omega), same_mut (s.trans s') nD, ys ++ [y], upd_same, by simp; omega, ?_⟩
      rw [filterMap_take_succ hu, c]
      simp
      exact Paired.snoc (pr_mono hP fun v w h => sB _ _ _ _ ((keepT_same s').trans kt) h) (sB _ _ _ _ kt hB)
  · intro H ⟨s, ys, hD, hl, hP⟩
    refine fin D ys H s nD hD ?_
    rw [hA.length, List.take_length] at hP
    exact hP
end
end K80

set_option maxHeartbeats 4000000
/-! dict comprehensions with keys of any tracked kind, one clause and two -/
namespace K80
open PySem PySem.Spec L2
open PyProof.Rows hiding St
/-- the store of a dict comprehension, by DPut -/
theorem dca_set {X : Cx} {pins : List (Addr × Obj)} {σ : L2.St} {H H' : Hp} {s : Shared} {E : Value → Shared → Prop} {D : Addr} {y v : V} {u r : Value} {Q : Unit → Shared → Prop} (hu : X.A.units + 1 < cLine) (I : Inv X pins σ H s) (g : DPut H D y v H')
    (ry : RelV y u) (rv : RelV v r) (h : ∀ s', Inv X pins σ H' s' → Q () s') : wpAny (model X.prog X.w) X.A (dictSet D u r) Q E s := by
  rcases g with ⟨kvs, k, e, ey, l, eH⟩ | ⟨kvs, k, b, e, ey, eb, l, eH⟩
  · rw [eH] at h
    rw [ey] at ry
    exact d_dictSet I e l ry rv h
  · rw [eH] at h
    rw [ey] at ry
    have eu : u = Value.ref b := ry
    rw [eu]
    have ⟨z, hd, xs, rel, dd⟩ := dt_of I.hok e
    have zx : xs.length ≤ sizeLine := (Paired.length rel) ▸ z
    have zl := length_putK kvs k v
    refine wpAny_dictSet_heap (hsz := zx) (show X.A.units < cLine by omega) (key_of I.hok eb) dd fun g dd' sm => h _ ?_
    have ⟨q, es, ep, hq, a1, a2, a3, _, a4⟩ := dd'
    refine d_write I (by rw [e]; trivial) sm ⟨q, hq⟩ ⟨by omega, hd, _, KT.keeps (rel.put k eb rv) (fun c ys ec => ?_), q, es, ep, hq, a1, a2, a3, a4⟩
    rw [upd_ne (ne_of ec e (by intro w; cases w))]
    exact ec

/-! ### the turns of {kx: vx for t0 in i0 if .. for t1 in i1 if ..} -/
section
variable (kx vx t0 i0 t1 i1 : Expr) (f0 f1 : List Expr) (sc : Scope) (ps : Pos) (it : Value) (D : Addr) (env : Env)
abbrev dc2 : Expr := .DictComp kx vx [⟨t0, i0, f0, 0⟩, ⟨t1, i1, f1, 0⟩] sc ps
/-- the tests of a clause -/
abbrev tst (fs : List Expr) : Sem Bool := forIn fs true fun c r => if r = true then do let ok ← isTrue c env (eval c env); pure (ForInStep.yield ok) else pure (ForInStep.yield r)
theorem dc2_out : compTurn (dc2 kx vx t0 i0 t1 i1 f0 f1 sc ps) 0 it (.ref D) env = (standAt i0.pos >>= fun _ => pyNext it >>= fun r => match r with
    | none => pure (.done .next)
    | some v => letOwnedTupleGo t0 it v >>= fun _ => assign t0 env v >>= fun _ => tst env f0 >>= fun ok =>
      if ok = true then eval i1 env >>= fun x => standAt i1.pos >>= fun _ => foldedSetIterable i1 env x >>= fun x => holding [x] (pyIter x) >>= fun j =>
          runOwn (.compStart (dc2 kx vx t0 i0 t1 i1 f0 f1 sc ps) 1 j (.ref D) env) env >>= fun _ => again (.compLoop (dc2 kx vx t0 i0 t1 i1 f0 f1 sc ps) 0 it (.ref D) env)
      else again (.compLoop (dc2 kx vx t0 i0 t1 i1 f0 f1 sc ps) 0 it (.ref D) env)) := by rfl
theorem dc2_in : compTurn (dc2 kx vx t0 i0 t1 i1 f0 f1 sc ps) 1 it (.ref D) env = (standAt i1.pos >>= fun _ => pyNext it >>= fun r => match r with
    | none => pure (.done .next)
    | some v => letOwnedTupleGo t1 it v >>= fun _ => assign t1 env v >>= fun _ => tst env f1 >>= fun ok =>
      if ok = true then (eval kx env >>= fun kv => holding [kv] (eval vx env) >>= fun vv => standAt { kx.pos with endLine := vx.pos.endLine, endCol := vx.pos.endCol } >>= fun _ => holding [kv, vv] (dictSet D kv vv)) >>= fun _ =>
          again (.compLoop (dc2 kx vx t0 i0 t1 i1 f0 f1 sc ps) 1 it (.ref D) env)
      else again (.compLoop (dc2 kx vx t0 i0 t1 i1 f0 f1 sc ps) 1 it (.ref D) env)) := by rfl
end

section
variable {prog : Program} {w : World} {A : Around} {s : Shared} {kx vx t0 i0 t1 i1 : Expr} {f0 f1 : List Expr} {sc : Scope} {ps : Pos} {it : Value} {D : Addr} {env : Env}
/-- no exception is met -/
abbrev noE : Value → Shared → Prop := fun _ _ => False
/-- a result that lets nothing out -/
def OkR (G : Shared → Prop) : Result → Shared → Prop := fun r s' => r = .ok .next ∧ G s'
/-- the second clause's loop -/
theorem dc2_inner (G : Shared → Prop) (J : Nat → Shared → Prop)
    (turn : ∀ n s, J n s → wpAny (model prog w) A (pyNext it) (fun r s1 => (r = none ∧ G s1) ∨ ∃ v, r = some v ∧ wpAny (model prog w) A (letOwnedTupleGo t1 it v) (fun _ s2 => wpAny (model prog w) A (assign t1 env v) (fun _ s3 =>
      wpAny (model prog w) A (tst env f1) (fun ok s4 => (ok = true ∧ wpAny (model prog w) A (eval kx env) (fun kv s5 => wpAny (model prog w) A (eval vx env) (fun vv s6 => wpAny (model prog w) A (dictSet D kv vv) (fun _ s7 => ∃ m, m < n ∧ J m s7) noE s6) noE s5) noE s4) ∨
        (ok = false ∧ ∃ m, m < n ∧ J m s4)) noE s3) noE s2) noE s1) noE s) (n : Nat) (h : J n s) :
    codeAny (model prog w) A (.compLoop (dc2 kx vx t0 i0 t1 i1 f0 f1 sc ps) 1 it (.ref D) env) (OkR G) s := by
  refine codeAny_loop rfl J (fun n s hJ => ?_) n h
  show wpAny _ A ((compTurn (dc2 kx vx t0 i0 t1 i1 f0 f1 sc ps) 1 it (.ref D) env).onRaise _) _ _ s
  refine wpAny_noted ?_
  rw [dc2_in]
  refine wpAny_bind (wpAny_standAt (wpAny_bind (thnF (turn n s hJ) fun r s1 h1 => ?_)))
  rcases h1 with ⟨rfl, g⟩ | ⟨v, rfl, h1⟩
  · exact wpAny_pure ⟨rfl, g⟩
  · refine wpAny_bind (thnF h1 fun _ s2 h2 => wpAny_bind (thnF h2 fun _ s3 h3 => wpAny_bind (thnF h3 fun ok s4 h4 => ?_)))
    rcases h4 with ⟨rfl, h4⟩ | ⟨rfl, h4⟩
    · exact wpAny_bind (wpAny_bind (thnF h4 fun kv s5 h5 => wpAny_bind (wpAny_holding (thnF h5 fun vv s6 h6 => wpAny_bind (wpAny_standAt (wpAny_holding (thnF h6 fun _ s7 h7 => wpAny_pure ⟨rfl, h7⟩)))))))
    · exact wpAny_pure ⟨rfl, h4⟩
/-- the second clause begins -/
theorem dc2_start {R : Result → Shared → Prop} (h0 : codeAny (model prog w) A (.compLoop (dc2 kx vx t0 i0 t1 i1 f0 f1 sc ps) 1 it (.ref D) env) R s)
    (h : wpAny (model prog w) A (pyIter it) (fun j s' => codeAny (model prog w) A (.compLoop (dc2 kx vx t0 i0 t1 i1 f0 f1 sc ps) 1 j (.ref D) env) R s') noE s) :
    codeAny (model prog w) A (.compStart (dc2 kx vx t0 i0 t1 i1 f0 f1 sc ps) 1 it (.ref D) env) R s := by
  refine codeAny_of_tree ?_
  show wpAny _ _ ((compStart (dc2 kx vx t0 i0 t1 i1 f0 f1 sc ps) 1 it (.ref D) env).onRaise _) _ _ s
  refine wpAny_notedAt ?_
  unfold compStart
  show wpAny _ _ (ask >>= _) _ _ s
  refine wpAny_bind (wpAny_askSetting (wpAny_ite ?_))
  split
  · first | exact wpAny_bind (wpAny_pure (wpAny_pure ⟨rfl, h0⟩)) | exact wpAny_pure ⟨rfl, h0⟩
  · refine wpAny_bind (wpAny_rule (wpAny_bind (wpAny_standAt (wpAny_bind ?_))))
    exact wpAny_mono h (fun j s' hj => wpAny_pure ⟨rfl, hj⟩) fun _ _ z => z.elim
/-- the first clause's loop -/
theorem dc2_outer (hs : ∀ x, foldedSetIterable i1 env x = pure x) (G : Shared → Prop) (J : Nat → Shared → Prop)
    (turn : ∀ n s, J n s → wpAny (model prog w) A (pyNext it) (fun r s1 => (r = none ∧ G s1) ∨ ∃ v, r = some v ∧ wpAny (model prog w) A (letOwnedTupleGo t0 it v) (fun _ s2 => wpAny (model prog w) A (assign t0 env v) (fun _ s3 =>
      wpAny (model prog w) A (tst env f0) (fun ok s4 => (ok = true ∧ wpAny (model prog w) A (eval i1 env) (fun x s5 => wpAny (model prog w) A (pyIter x) (fun j s6 =>
        codeAny (model prog w) A (.compStart (dc2 kx vx t0 i0 t1 i1 f0 f1 sc ps) 1 j (.ref D) env) (OkR fun s7 => ∃ m, m < n ∧ J m s7) s6) noE s5) noE s4) ∨ (ok = false ∧ ∃ m, m < n ∧ J m s4)) noE s3) noE s2) noE s1) noE s) (n : Nat) (h : J n s) :
    codeAny (model prog w) A (.compLoop (dc2 kx vx t0 i0 t1 i1 f0 f1 sc ps) 0 it (.ref D) env) (OkR G) s := by
  refine codeAny_loop rfl J (fun n s hJ => ?_) n h
  show wpAny _ A ((compTurn (dc2 kx vx t0 i0 t1 i1 f0 f1 sc ps) 0 it (.ref D) env).onRaise _) _ _ s
  refine wpAny_noted ?_
  rw [dc2_out]
  refine wpAny_bind (wpAny_standAt (wpAny_bind (thnF (turn n s hJ) fun r s1 h1 => ?_)))
  rcases h1 with ⟨rfl, g⟩ | ⟨v, rfl, h1⟩
  · exact wpAny_pure ⟨rfl, g⟩
  · refine wpAny_bind (thnF h1 fun _ s2 h2 => wpAny_bind (thnF h2 fun _ s3 h3 => wpAny_bind (thnF h3 fun ok s4 h4 => ?_)))
    rcases h4 with ⟨rfl, h4⟩ | ⟨rfl, h4⟩
    · refine wpAny_bind (thnF h4 fun x s5 h5 => wpAny_bind (wpAny_standAt (wpAny_bind (wpAny_of_eq (hs x) (wpAny_bind (wpAny_holding (thnF h5 fun j s6 h6 => ?_)))))))
      refine wpAny_bind (wpAny_runOwn ?_)
      rw [Around.mark_none]
      refine codeAny_mono h6 fun r s7 ⟨hr, h7⟩ => ?_
      rw [hr]
      exact wpAny_pure ⟨rfl, h7⟩
    · exact wpAny_pure ⟨rfl, h4⟩
end

/-! ### the whole of it: what stands around the loop -/
section
variable {X : Cx}
/-- what a block's run of the comprehension e over the first iterator is to end in -/
def BlkRun (X : Cx) (e tg : Expr) (scope : Scope) (σ : L2.St) (vs : List Nat) (Q : VK) (H3 : Hp) (s3 : Shared) (D : Addr) (it : Addr) (fp : List Addr) (tn : Nat → Heap → Prop) (ce : Env) : Prop :=
  ∀ s4, Inv (X.blk s3 H3 scope ce fp) [] (wipe σ vs) H3 s4 → tn 0 s4.heap → (∀ b ∈ fp, H3 b = none) →
    codeAny (model X.prog X.w) X.A (.compLoop e 0 (.ref it) (.ref D) ce) (OkR fun s' => ∃ H', Inv (X.blk s3 H3 scope ce fp) [] (wipe σ vs) H' s' ∧ Q (.ref D) H') s4
theorem dct_gen {use : Option (Value → Sem Unit)} {Qf : Value → Shared → Prop} {pos' : Pos} {o0 : HO} {pins : List (Addr × Obj)} {s : Shared} {σ : L2.St} {H : Hp} {Q : VK} {kx vx tg iter : Expr} {gs : List Comprehension} {ifs : List Expr} {scope : Scope} {own : List (Str × Nat)} {pos : Pos} {wi : TI}
    (h0 : o0 = .dK [] ∨ o0 = .dT []) (hN : X.N.Nodup) (I : Inv X pins σ H s) (hi : PI X tg iter wi) (ok : BlkOk X.N X.env.scope scope own) (hs : ∀ x, foldedSetIterable iter X.env x = pure x)
    (hst : ∀ {R : Result → Shared → Prop} {it D : Addr} {env : Env} {s : Shared}, codeAny (model X.prog X.w) X.A (.compLoop (.DictComp kx vx (⟨tg, iter, ifs, 0⟩ :: gs) scope pos) 0 (.ref it) (.ref D) env) R s → wpAny (model X.prog X.w) X.A (pyIter (.ref it)) (fun j s' => j = .ref it ∧ s' = s) noE s →
      codeAny (model X.prog X.w) X.A (.compStart (.DictComp kx vx (⟨tg, iter, ifs, 0⟩ :: gs) scope pos) 0 (.ref it) (.ref D) env) R s)
    {Rr : It → Hp → Prop} (h : wi σ H Rr) (hR : ∀ J H1, Rr J H1 → ∀ D, H1 D = none → ∀ (s3 : Shared) (it : Addr) (fp : List Addr) (tn : Nat → Heap → Prop) (C : Addr) (cl : List (Str × Addr)), Turn X.prog X.w X.K tg J fp it tn → Inv X pins σ (upd H1 D o0) s3 →
      (∀ b ∈ fp, (upd H1 D o0) b = none) → BlkRun X (.DictComp kx vx (⟨tg, iter, ifs, 0⟩ :: gs) scope pos) tg scope σ (own.map (·.2)) Q (upd H1 D o0) s3 D it fp tn (compEnvC scope cl C X.env))
    (hRR : ∀ D C s' m H', Inv X pins σ H' s' → Q (.ref D) H' → s'.heap.Ns C m → FpOk X pins H' C → compPost (model X.prog X.w) X.A X.xe use Qf (.ref D) C (.ok .next) s') :
    wpAny (model X.prog X.w) X.A (comprehension (.DictComp kx vx (⟨tg, iter, ifs, 0⟩ :: gs) scope pos) scope X.env pos' newDict false (eval iter X.env) use) Qf X.xe s := by
  have hfr : ∀ y ∈ scope.names, y.2 = .free → ∃ c, X.env.cells.lookup y.1 = some c := fun y hy e => (ok.free y hy e).elim (fun k => I.ok.has _ (.inl k)) fun k => I.ok.has _ (.inr k)
  refine wpAny_comprehension_free (use := use) rfl hs (closure_ok hfr) ok.kind (fun y hy e => (ok.uniq y hy).trans (congrArg _ e)) (thn (hi.run pins s σ H _ I h) fun xv s1 hx => thn hx fun itv s2 ⟨it, fp, tn, J, H2, e, I2, T, st2, f2, q⟩ => ?_)
  subst e
  refine wpAny_newObj_type (newEnv_comp ?_)
  have nD : H2 s2.heap.objs.size = none := I2.hok.fresh (Nat.le_refl _)
  have I3 : Inv X pins σ (upd H2 s2.heap.objs.size o0) { s2 with heap := s2.heap.push { cls := .type "dict", data := .dict #[] } } := by
    refine I2.laid (t' := s2.toks) (fun b o e => Heap.get?_push_of_some _ e) (Nat.le_refl _) ?_
    rcases h0 with rfl | rfl
    · exact dk_empty s2.heap I2.big
    · exact dt_empty s2.heap I2.big
  have sz : ∀ b ∈ fp, b < s2.heap.objs.size := fun b hb => let ⟨o, e, _⟩ := T.obj _ _ st2 b hb; Heap.lt_size e
  have f3 : ∀ b ∈ fp, FpOk X pins (upd H2 s2.heap.objs.size o0) b ∧ b < (s2.heap.push { cls := .type "dict", data := .dict #[] }).objs.size := fun b hb =>
    ⟨⟨by rw [upd_ne (Nat.ne_of_lt (sz b hb))]; exact (f2 b hb).1, (f2 b hb).2⟩, by rw [Heap.size_push]; exact Nat.lt_succ_of_lt (sz b hb)⟩
  generalize hD : s2.heap.objs.size = D at nD I3 f3 sz ⊢
  generalize hs3 : ({ s2 with heap := s2.heap.push { cls := .type "dict", data := .dict #[] } } : Shared) = s3 at I3 ⊢
  have e3 : s2.heap.push { cls := .type "dict", data := .dict #[] } = s3.heap := by rw [← hs3]
  rw [e3] at f3
  have st3 : tn 0 s3.heap := T.keep _ _ _ st2 fun b _ o e => by rw [← e3]; exact Heap.get?_push_of_some _ e
  have run := hR J H2 q D nD s3 it fp tn s3.heap.objs.size (cellsFrom (s3.heap.objs.size + 1) scope.names (cloFrom X.env.cells scope.names [])) T I3 fun b hb => (f3 b hb).1.1
  have I4 := block_start I3 ok hN f3
  have st4 : tn 0 (pushCells (s3.heap.push { cls := .type "dict", data := .dict #[] }) scope.names) := T.keep _ _ _ st3 fun b _ o e => pushCells_keeps _ _ _ _ (Heap.get?_push_of_some _ e)
  have loop := run _ I4 st4 fun b hb => (f3 b hb).1.1
  refine hst (codeAny_mono loop fun r s5 ⟨hr, H5, I5, q5⟩ => ?_) (T.self X.A 0 _ _ _ st4 ⟨rfl, rfl⟩)
  have I6 : Inv X pins σ H5 s5 := I3.call' (ch := fp) I5.os I5.base I5.hok I5.bare fun b hb => ⟨(f3 b hb).1.2.2.2.1, (f3 b hb).1.2.1, (f3 b hb).1.2.2.2.2.1, (f3 b hb).1.2.2.2.2.2⟩
  have nC : H5 s3.heap.objs.size = none := I5.free
  have ⟨m, hn, _⟩ := I5.loc
  rw [hr]
  exact hRR D _ s5 m H5 I6 q5 hn (I3.fpOk (Nat.le_refl _) nC)
/-- as a value; stored into a local name on one line -/
theorem dc_val {pins : List (Addr × Obj)} {σ : L2.St} {Q : VK} (D : Addr) (C : Addr) (s' : Shared) (m : Str → Option Value) (H' : Hp) (I' : Inv X pins σ H' s') (q : Q (.ref D) H') (hn : s'.heap.Ns C m) (f : FpOk X pins H' C) :
    compPost (model X.prog X.w) X.A X.xe none (EP X pins σ Q) (.ref D) C (.ok .next) s' := by
  have ⟨g0, g1, g2, g3, g4, g5⟩ := f
  exact ⟨m, hn, fun h6 sb => ⟨.ref D, H', I'.turned (t' := s'.toks) (fun b o hb e => (sb.2 b hb).trans e) g0 g1 g3 g4 g5, rfl, q⟩⟩
theorem dc_put {pins : List (Addr × Obj)} {σ : L2.St} {Dn : Ends} {i : Nat} {y : Str} {py : Pos} (hN : X.N.Nodup) (hy : X.N[i]? = some y) (hyl : X.env.scope.names.lookup y = some .local) (D : Addr) (C : Addr) (s' : Shared) (m : Str → Option Value) (H' : Hp) (I' : Inv X pins σ H' s')
    (q : gName i (.ref D) σ H' Dn.nx) (hn : s'.heap.Ns C m) (f : FpOk X pins H' C) : compPost (model X.prog X.w) X.A X.xe (some (assign (.Name y py) X.env)) (fun _ s' => SP X pins Dn .next s') (.ref D) C (.ok .next) s' := by
  show wpAny _ _ (assign (.Name y py) X.env (.ref D)) _ _ _
  refine wpAny_assign_Name (store_ok2 (v := V.ref D) I' hN hy (.inl hyl) rfl (fun s2 I2 ⟨a, sb, ha⟩ => ?_) (.inr hyl))
  have ⟨f0, f1, f2, f3, f4, f5⟩ := f
  have ne : C ≠ a := ha.elim (fun z => z ▸ f1) fun z e => f4 y a z e.symm
  exact ⟨m, hn.sameBut sb ne, fun h3 sb3 => ⟨_, H', I2.turned (t' := s2.toks) (fun b o hb e => (sb3.2 b hb).trans e) f0 f1 f3 f4 f5, q⟩⟩
theorem sw_dict {kx vx : Expr} {gs : List Comprehension} {scope : Scope} {pos py : Pos} {y : Str} {l : Nat} {env : Env} (hk : env.scope.kind = .function) (hy : env.scope.names.lookup y = some .local) (hl : (py.line == pos.line) = true)
    (ha : (scope.names.any fun (n, k) => n == y && (k == .local || k == .cell)) = false) : swapsWith (.DictComp kx vx gs scope pos) (some (.Name y py)) l env = pure true := by
  have ky : env.kindOf y = some .local := hy
  have hb : env.blockKind = .function := by unfold Env.blockKind; rw [hk]; rfl
  unfold swapsWith
  simp only [hb, ky, ha, Expr.pos, hl]
  rfl
end

section
variable {X : Cx} {kx vx tg iter tg1 iter1 : Expr} {ifs ifs1 : List Expr} {scope : Scope} {own : List (Str × Nat)} {vs1 : List Nat} {pos : Pos} {wi wi1 : TI} {g g1 : TG} {tt tt1 : TT} {tk tv : TE}
/-- one turn's store -/
def tPutA (D : Addr) (tk tv : TE) (σ : L2.St) (H : Hp) (Nx : Hp → Prop) : Prop := tk σ H fun y H1 => tv σ H1 fun z H2 => ∃ H3, DPut H2 D y z H3 ∧ Nx H3
/-- {k: v for target in iter if ..}, o0 the empty dict that it begins with -/
def tDcA (o0 : HO) (wi : TI) (g : TG) (tt : TT) (tk tv : TE) (vs : List Nat) : TE := fun σ H Q => wi σ H fun J H1 => ∀ D, H1 D = none → ∃ W : Nat → Nat → Hp → Prop, (∃ m, W 0 m (upd H1 D o0)) ∧ ∀ i m H, W i m H →
  (J.stop i H ∧ Q (.ref D) H) ∨ (J.go i H ∧ ∃ Nx : Hp → Prop, (∀ H', Nx H' → ∃ m', m' < m ∧ W (i + 1) m' H') ∧ ∀ x H', J.yld i H x H' → g x (wipe σ vs) H' fun σ2 H2 => wipe σ2 vs = wipe σ vs ∧ tt σ2 H2 fun b H3 => if b = true then tPutA D tk tv σ2 H3 Nx else Nx H3)
/-- the turn's end: the block's own names are forgotten again, the iterator stands as it stood -/
theorem turn_end {Y : Cx} {s7 s' : Shared} {H' : Hp} {fp : List Addr} {σ0 σ8 : L2.St} {vs : List Nat} {tg : Expr} {J : It} {it : Addr} {tn : Nat → Heap → Prop} {i : Nat} {pl : List (Addr × Obj)} (T : Turn X.prog X.w X.K tg J fp it tn) (st7 : tn i s7.heap)
    (I' : Inv Y (pl ++ pinsAt fp s7.heap) σ8 H' s') (hw : wipe σ8 vs = wipe σ0 vs) : Inv Y pl (wipe σ0 vs) H' s' ∧ tn i s'.heap ∧ ∀ b ∈ fp, H' b = none := by
  have pin : ∀ b ∈ fp, ∀ o, s7.heap.get? b = some o → s'.heap.get? b = some o ∧ H' b = none := fun b hb o e =>
    ⟨(I'.pin (b, o) (List.mem_append_right _ (List.mem_append_right _ (mem_pinsAt hb e)))).1, (I'.pin (b, o) (List.mem_append_right _ (List.mem_append_right _ (mem_pinsAt hb e)))).2.1⟩
  refine ⟨I'.unpinned.weak (by rw [← wipe_length σ8 vs, hw]) fun j v e => ?_, T.keep _ _ _ st7 fun b hb o e => (pin b hb o e).1, fun b hb => let ⟨o, e, _⟩ := T.obj _ _ st7 b hb; (pin b hb o e).2⟩
  rw [← hw] at e
  exact (wipe_some e).1
theorem wipe_wipe (σ : L2.St) (vs : List Nat) : wipe (wipe σ vs) vs = wipe σ vs := by
  have key : ∀ (vs ws : List Nat) (σ : L2.St), (∀ v ∈ vs, v ∈ ws) → wipe (wipe σ ws) vs = wipe σ ws := fun vs => by
    induction vs with
    | nil => intro ws σ _; rfl
    | cons v vs ih =>
      intro ws σ h
      show (wipe (wipe σ ws) vs).set v none = wipe σ ws
      rw [ih ws σ fun x hx => h x (List.mem_cons_of_mem _ hx)]
      refine List.ext_getElem? fun j => ?_
      by_cases e : v = j
      · subst e
        rw [List.getElem?_set_self']
        cases hq : (wipe σ ws)[v]? with
        | none => rfl
        | some o =>
          cases o with
          | none => rfl
          | some x => exact absurd (h v List.mem_cons_self) (wipe_some hq).2
      · rw [List.getElem?_set_ne e]
  exact key vs vs σ fun _ h => h
theorem stat_of {s3 : Shared} {H3 H' : Hp} {ce : Env} {fp : List Addr} {σ' : L2.St} {s' : Shared} (I' : Inv (X.blk s3 H3 scope ce fp) [] σ' H' s') (hn : ∀ b ∈ fp, H' b = none) : ∀ b ∈ fp, FpOk (X.blk s3 H3 scope ce fp) [] H' b := fun b hb =>
  ⟨hn b hb, (I'.ok.exf b hb).1, I'.ok.exfs b hb, .inl hb, (I'.ok.exf b hb).2, fun p hp => by cases hp⟩
theorem start0 {gs : List Comprehension} {R : Result → Shared → Prop} {it D : Addr} {env : Env} {s : Shared} (h0 : codeAny (model X.prog X.w) X.A (.compLoop (.DictComp kx vx (⟨tg, iter, ifs, 0⟩ :: gs) scope pos) 0 (.ref it) (.ref D) env) R s)
    (h : wpAny (model X.prog X.w) X.A (pyIter (.ref it)) (fun j s' => j = .ref it ∧ s' = s) noE s) : codeAny (model X.prog X.w) X.A (.compStart (.DictComp kx vx (⟨tg, iter, ifs, 0⟩ :: gs) scope pos) 0 (.ref it) (.ref D) env) R s :=
  codeAny_compStart_dict h0 (thnF h fun j s' ⟨hj, hs⟩ => by subst hj hs; exact h0)
abbrev blkE (X : Cx) (scope : Scope) (C : Addr) (cl : List (Str × Addr)) : Env := compEnvC scope cl C X.env
theorem pe_dcA_core {use : Option (Value → Sem Unit)} {Qf : Value → Shared → Prop} {pos' : Pos} {pins : List (Addr × Obj)} {s : Shared} {σ : L2.St} {H : Hp} {Q : VK} (o0 : HO) (h0 : o0 = .dK [] ∨ o0 = .dT []) (hu : X.A.units + 1 < cLine) (hc : X.calm = true) (hN : X.N.Nodup) (hi : PI X tg iter wi) (ok : BlkOk X.N X.env.scope scope own)
    (hg : ∀ (s : Shared) (H : Hp) (C : Addr) (cl : List (Str × Addr)) (fp : List Addr), PG (X.blk s H scope (blkE X scope C cl) fp) tg g) (ht : ∀ (s : Shared) (H : Hp) (C : Addr) (cl : List (Str × Addr)) (fp : List Addr), PTs (X.blk s H scope (blkE X scope C cl) fp) ifs tt)
    (hk : ∀ (s : Shared) (H : Hp) (C : Addr) (cl : List (Str × Addr)) (fp : List Addr), PE (X.blk s H scope (blkE X scope C cl) fp) kx tk) (hv : ∀ (s : Shared) (H : Hp) (C : Addr) (cl : List (Str × Addr)) (fp : List Addr), PE (X.blk s H scope (blkE X scope C cl) fp) vx tv)
    (hs : ∀ x, foldedSetIterable iter X.env x = pure x)
    (I : Inv X pins σ H s) (h : tDcA o0 wi g tt tk tv (own.map (·.2)) σ H Q) (hRR : ∀ D C s' m H', Inv X pins σ H' s' → Q (.ref D) H' → s'.heap.Ns C m → FpOk X pins H' C → compPost (model X.prog X.w) X.A X.xe use Qf (.ref D) C (.ok .next) s') :
    wpAny (model X.prog X.w) X.A (comprehension (.DictComp kx vx [⟨tg, iter, ifs, 0⟩] scope pos) scope X.env pos' newDict false (eval iter X.env) use) Qf X.xe s := by
  refine dct_gen h0 hN I hi ok hs start0 h (fun J H1 q D nD s3 it fp tn C cl T I3 n3 s4 I4 st4 _ => ?_) hRR
  obtain ⟨W, ⟨m0, w0⟩, turn⟩ := q D nD
  have pg := hg s3 (upd H1 D o0) C cl fp
  have pt := ht s3 (upd H1 D o0) C cl fp
  have pk := hk s3 (upd H1 D o0) C cl fp
  have pv' := hv s3 (upd H1 D o0) C cl fp
  unfold blkE at pg pt pk pv'
  generalize hce : compEnvC scope cl C X.env = ce at I4 pg pt pk pv' ⊢
  refine compLoop_anyD (fun n s' => ∃ i H', Inv (X.blk s3 (upd H1 D o0) scope ce fp) [] (wipe σ (own.map (·.2))) H' s' ∧ tn i s'.heap ∧ (∀ b ∈ fp, H' b = none) ∧ W i n H') ?_ m0 ⟨0, _, I4, st4, n3, w0⟩
  rintro n s5 ⟨i, H5, I5, st5, n5, w5⟩
  rcases turn i n H5 w5 with ⟨stop, qq⟩ | ⟨go, Nx, hNx, step⟩
  · refine thnF (T.done (X.blk s3 (upd H1 D o0) scope ce fp) rfl rfl rfl hc i [] s5 _ H5 noE I5 (stat_of I5 n5) st5 stop) fun r s6 ⟨hr, I6⟩ => ?_
    rw [hr]
    exact ⟨rfl, H5, I6, qq⟩
  · refine thnF (T.item (X.blk s3 (upd H1 D o0) scope ce fp) rfl rfl rfl hc i [] s5 _ H5 noE I5 (stat_of I5 n5) st5 go) fun r s6 ⟨u, hr, h6⟩ => ?_
    rw [hr]
    refine thnF h6 fun _ s7 ⟨x, H7, I7, r7, y7, st7, n7⟩ => ?_
    refine thnF (pg.run _ s7 _ H7 x u _ (I7.pinned (stat_of I7 n7) (T.obj _ _ st7)) r7 (step x H7 y7)) fun _ s8 ⟨σ8, H8, I8, hw8, q8⟩ => ?_
    refine thnF (pt.run _ s8 σ8 H8 _ I8 q8) fun b s9 ⟨H9, I9, q9⟩ => ?_
    have fin : ∀ {s' : Shared} {H' : Hp}, Inv (X.blk s3 (upd H1 D o0) scope ce fp) ([] ++ pinsAt fp s7.heap) σ8 H' s' → Nx H' → ∃ m, m < n ∧ ∃ i H', Inv (X.blk s3 (upd H1 D o0) scope ce fp) [] (wipe σ (own.map (·.2))) H' s' ∧ tn i s'.heap ∧ (∀ b ∈ fp, H' b = none) ∧ W i m H' := fun I' nx =>
      let ⟨m', hm, w'⟩ := hNx _ nx
      let ⟨a1, a2, a3⟩ := turn_end T st7 I' hw8
      ⟨m', hm, i + 1, _, a1, a2, a3, w'⟩
    cases b with
    | false => exact fin I9 q9
    | true =>
      refine thnF (pk.run _ s9 σ8 H9 _ I9 q9) fun z s10 ⟨yk, H10, I10, r10, q10⟩ => ?_
      refine thnF (pv'.run _ s10 σ8 H10 _ I10 q10) fun z2 s11 ⟨yv, H11, I11, r11, H12, g12, nx⟩ => ?_
      exact dca_set (X := X.blk s3 (upd H1 D o0) scope ce fp) hu I11 g12 r10 r11 fun s12 I12 => fin I12 nx
theorem pe_dcA (o0 : HO) (h0 : o0 = .dK [] ∨ o0 = .dT []) (hu : X.A.units + 1 < cLine) (hc : X.calm = true) (hN : X.N.Nodup) (hi : PI X tg iter wi) (ok : BlkOk X.N X.env.scope scope own)
    (hg : ∀ (s : Shared) (H : Hp) (C : Addr) (cl : List (Str × Addr)) (fp : List Addr), PG (X.blk s H scope (blkE X scope C cl) fp) tg g) (ht : ∀ (s : Shared) (H : Hp) (C : Addr) (cl : List (Str × Addr)) (fp : List Addr), PTs (X.blk s H scope (blkE X scope C cl) fp) ifs tt)
    (hk : ∀ (s : Shared) (H : Hp) (C : Addr) (cl : List (Str × Addr)) (fp : List Addr), PE (X.blk s H scope (blkE X scope C cl) fp) kx tk) (hv : ∀ (s : Shared) (H : Hp) (C : Addr) (cl : List (Str × Addr)) (fp : List Addr), PE (X.blk s H scope (blkE X scope C cl) fp) vx tv)
    (hs : ∀ x, foldedSetIterable iter X.env x = pure x := by intro _; rfl) : PE X (.DictComp kx vx [⟨tg, iter, ifs, 0⟩] scope pos) (tDcA o0 wi g tt tk tv (own.map (·.2))) := by
  refine ⟨fun pins s σ H Q I h => ?_⟩
  rw [arm_eval_DictComp]
  exact pe_dcA_core o0 h0 hu hc hN hi ok hg ht hk hv hs I h dc_val
theorem ps_setDcA {i : Nat} {y : Str} {py spos : Pos}  (o0 : HO) (h0 : o0 = .dK [] ∨ o0 = .dT []) (hu : X.A.units + 1 < cLine) (hc : X.calm = true) (hN : X.N.Nodup) (hy : X.N[i]? = some y) (hyl : X.env.scope.names.lookup y = some .local)
    (hsw : swapsWith (.DictComp kx vx [⟨tg, iter, ifs, 0⟩] scope pos) (some (.Name y py)) spos.line X.env = pure true) (hi : PI X tg iter wi) (ok : BlkOk X.N X.env.scope scope own)
    (hg : ∀ (s : Shared) (H : Hp) (C : Addr) (cl : List (Str × Addr)) (fp : List Addr), PG (X.blk s H scope (blkE X scope C cl) fp) tg g) (ht : ∀ (s : Shared) (H : Hp) (C : Addr) (cl : List (Str × Addr)) (fp : List Addr), PTs (X.blk s H scope (blkE X scope C cl) fp) ifs tt)
    (hk : ∀ (s : Shared) (H : Hp) (C : Addr) (cl : List (Str × Addr)) (fp : List Addr), PE (X.blk s H scope (blkE X scope C cl) fp) kx tk) (hv : ∀ (s : Shared) (H : Hp) (C : Addr) (cl : List (Str × Addr)) (fp : List Addr), PE (X.blk s H scope (blkE X scope C cl) fp) vx tv)
    (hs : ∀ x, foldedSetIterable iter X.env x = pure x := by intro _; rfl) :
    PS X (.Assign [.Name y py] (.DictComp kx vx [⟨tg, iter, ifs, 0⟩] scope pos) spos) (tAsg (tDcA o0 wi g tt tk tv (own.map (·.2))) (gName i)) := by
  refine ⟨fun pins s σ H D I h => ?_⟩
  rw [exec_Assign_Name_used _ _ _ _ hsw]
  refine wpAny_bind (wpAny_standAt (wpAny_bind ?_))
  show wpAny _ X.A (do let _ ← comprehension (.DictComp kx vx [⟨tg, iter, ifs, 0⟩] scope pos) scope X.env (firstIterPos [⟨tg, iter, ifs, 0⟩] pos) newDict false (eval iter X.env) (some (assign (.Name y py) X.env))) _ _ s
  exact wpAny_bind (thn (pe_dcA_core (Q := fun x H1 => gName i x σ H1 D.nx) (use := some (assign (.Name y py) X.env)) (pins := pins) (σ := σ) o0 h0 hu hc hN hi ok hg ht hk hv hs I h (dc_put (Dn := D) hN hy hyl)) fun _ s' hq => wpAny_pure (wpAny_pure hq))
/-- {k: v for target in iter if .. for target1 in iter1 if ..} -/
def tDcA2 (o0 : HO) (wi : TI) (g : TG) (tt : TT) (wi1 : TI) (g1 : TG) (tt1 : TT) (tk tv : TE) (vs vs1 : List Nat) : TE := fun σ H Q => wi σ H fun J H1 => ∀ D, H1 D = none → ∃ W : Nat → Nat → Hp → Prop, (∃ m, W 0 m (upd H1 D o0)) ∧ ∀ i m H, W i m H →
  (J.stop i H ∧ Q (.ref D) H) ∨ (J.go i H ∧ ∃ Nx : Hp → Prop, (∀ H', Nx H' → ∃ m', m' < m ∧ W (i + 1) m' H') ∧ ∀ x H', J.yld i H x H' → g x (wipe σ vs) H' fun σ2 H2 => wipe σ2 vs = wipe σ vs ∧ tt σ2 H2 fun b H3 =>
    if b = true then wi1 σ2 H3 fun J1 H4 => ∃ W1 : Nat → Nat → Hp → Prop, (∃ m, W1 0 m H4) ∧ ∀ j k H, W1 j k H →
      (J1.stop j H ∧ Nx H) ∨ (J1.go j H ∧ ∃ N1 : Hp → Prop, (∀ H', N1 H' → ∃ k', k' < k ∧ W1 (j + 1) k' H') ∧ ∀ x H', J1.yld j H x H' → g1 x (wipe σ2 vs1) H' fun σ3 H5 => wipe σ3 vs1 = wipe σ2 vs1 ∧ tt1 σ3 H5 fun b H6 => if b = true then tPutA D tk tv σ3 H6 N1 else N1 H6)
    else Nx H3)
theorem wipe_keep {σ8 σ0 : L2.St} {vs vs1 : List Nat} (hw : wipe σ8 vs = wipe σ0 vs) (hv : ∀ i ∈ vs1, i ∈ vs) (j : Nat) (v : V) (e : (wipe σ0 vs)[j]? = some (some v)) : (wipe σ8 vs1)[j]? = some (some v) := by
  rw [← hw] at e
  have ⟨e1, e2⟩ := wipe_some e
  rw [wipe_out fun z => e2 (hv j z)]
  exact e1
theorem pe_dcA2_core {use : Option (Value → Sem Unit)} {Qf : Value → Shared → Prop} {pos' : Pos} {pins : List (Addr × Obj)} {s : Shared} {σ : L2.St} {H : Hp} {Q : VK} (o0 : HO) (h0 : o0 = .dK [] ∨ o0 = .dT []) (hu : X.A.units + 1 < cLine) (hc : X.calm = true) (hN : X.N.Nodup) (hi : PI X tg iter wi) (ok : BlkOk X.N X.env.scope scope own) (hv1 : ∀ i ∈ vs1, i ∈ own.map (·.2))
    (hg : ∀ (s : Shared) (H : Hp) (C : Addr) (cl : List (Str × Addr)) (fp : List Addr), PG (X.blk s H scope (blkE X scope C cl) fp) tg g) (ht : ∀ (s : Shared) (H : Hp) (C : Addr) (cl : List (Str × Addr)) (fp : List Addr), PTs (X.blk s H scope (blkE X scope C cl) fp) ifs tt)
    (hi1 : ∀ (s : Shared) (H : Hp) (C : Addr) (cl : List (Str × Addr)) (fp : List Addr), PI (X.blk s H scope (blkE X scope C cl) fp) tg1 iter1 wi1)
    (hg1 : ∀ (s : Shared) (H : Hp) (C : Addr) (cl : List (Str × Addr)) (fp : List Addr), PG (X.blk s H scope (blkE X scope C cl) fp) tg1 g1) (ht1 : ∀ (s : Shared) (H : Hp) (C : Addr) (cl : List (Str × Addr)) (fp : List Addr), PTs (X.blk s H scope (blkE X scope C cl) fp) ifs1 tt1)
    (hk : ∀ (s : Shared) (H : Hp) (C : Addr) (cl : List (Str × Addr)) (fp : List Addr), PE (X.blk s H scope (blkE X scope C cl) fp) kx tk) (hv : ∀ (s : Shared) (H : Hp) (C : Addr) (cl : List (Str × Addr)) (fp : List Addr), PE (X.blk s H scope (blkE X scope C cl) fp) vx tv)
    (hs : ∀ x, foldedSetIterable iter X.env x = pure x) (hs1 : ∀ env x, foldedSetIterable iter1 env x = pure x)
    (I : Inv X pins σ H s) (h : tDcA2 o0 wi g tt wi1 g1 tt1 tk tv (own.map (·.2)) vs1 σ H Q) (hRR : ∀ D C s' m H', Inv X pins σ H' s' → Q (.ref D) H' → s'.heap.Ns C m → FpOk X pins H' C → compPost (model X.prog X.w) X.A X.xe use Qf (.ref D) C (.ok .next) s') :
    wpAny (model X.prog X.w) X.A (comprehension (dc2 kx vx tg iter tg1 iter1 ifs ifs1 scope pos) scope X.env pos' newDict false (eval iter X.env) use) Qf X.xe s := by
  refine dct_gen h0 hN I hi ok hs start0 h (fun J H1 q D nD s3 it fp tn C cl T I3 n3 s4 I4 st4 _ => ?_) hRR
  obtain ⟨W, ⟨m0, w0⟩, turn⟩ := q D nD
  have pg := hg s3 (upd H1 D o0) C cl fp
  have pt := ht s3 (upd H1 D o0) C cl fp
  have pi1 := hi1 s3 (upd H1 D o0) C cl fp
  have pg1 := hg1 s3 (upd H1 D o0) C cl fp
  have pt1 := ht1 s3 (upd H1 D o0) C cl fp
  have pk := hk s3 (upd H1 D o0) C cl fp
  have pv' := hv s3 (upd H1 D o0) C cl fp
  unfold blkE at pg pt pi1 pg1 pt1 pk pv'
  generalize hce : compEnvC scope cl C X.env = ce at I4 pg pt pi1 pg1 pt1 pk pv' ⊢
  refine dc2_outer (hs1 ce) _ (fun n s' => ∃ i H', Inv (X.blk s3 (upd H1 D o0) scope ce fp) [] (wipe σ (own.map (·.2))) H' s' ∧ tn i s'.heap ∧ (∀ b ∈ fp, H' b = none) ∧ W i n H') ?_ m0 ⟨0, _, I4, st4, n3, w0⟩
  rintro n s5 ⟨i, H5, I5, st5, n5, w5⟩
  rcases turn i n H5 w5 with ⟨stop, qq⟩ | ⟨go, Nx, hNx, step⟩
  · exact thnF (T.done (X.blk s3 (upd H1 D o0) scope ce fp) rfl rfl rfl hc i [] s5 _ H5 noE I5 (stat_of I5 n5) st5 stop) fun r s6 ⟨hr, I6⟩ => .inl ⟨hr, H5, I6, qq⟩
  · refine thnF (T.item (X.blk s3 (upd H1 D o0) scope ce fp) rfl rfl rfl hc i [] s5 _ H5 noE I5 (stat_of I5 n5) st5 go) fun r s6 ⟨u, hr, h6⟩ => .inr ⟨u, hr, ?_⟩
    refine thnF h6 fun _ s7 ⟨x, H7, I7, r7, y7, st7, n7⟩ => ?_
    refine thnF (pg.run _ s7 _ H7 x u _ (I7.pinned (stat_of I7 n7) (T.obj _ _ st7)) r7 (step x H7 y7)) fun _ s8 ⟨σ8, H8, I8, hw8, q8⟩ => ?_
    refine thnF (pt.run _ s8 σ8 H8 _ I8 q8) fun b s9 ⟨H9, I9, q9⟩ => ?_
    have fin : ∀ {σ9 : L2.St} {s' : Shared} {H' : Hp}, Inv (X.blk s3 (upd H1 D o0) scope ce fp) ([] ++ pinsAt fp s7.heap) σ9 H' s' → σ9 = σ8 ∨ σ9 = wipe σ8 vs1 → Nx H' → ∃ m, m < n ∧ ∃ i H', Inv (X.blk s3 (upd H1 D o0) scope ce fp) [] (wipe σ (own.map (·.2))) H' s' ∧ tn i s'.heap ∧ (∀ b ∈ fp, H' b = none) ∧ W i m H' := fun {σ9 s' H'} I' e9 nx =>
      let ⟨m', hm, w'⟩ := hNx _ nx
      have I'' : Inv (X.blk s3 (upd H1 D o0) scope ce fp) ([] ++ pinsAt fp s7.heap) (wipe σ (own.map (·.2))) H' s' := by
        refine I'.weak ?_ fun j v e => ?_
        · rw [← hw8, wipe_length]
          rcases e9 with rfl | rfl
          · rfl
          · rw [wipe_length]
        · rcases e9 with rfl | rfl
          · rw [← hw8] at e
            exact (wipe_some e).1
          · exact wipe_keep hw8 hv1 j v e
      let ⟨a1, a2, a3⟩ := turn_end (σ8 := wipe σ (own.map (·.2))) (σ0 := σ) (vs := own.map (·.2)) T st7 I'' (wipe_wipe _ _)
      ⟨m', hm, i + 1, _, a1, a2, a3, w'⟩
    cases b with
    | false => exact .inr ⟨rfl, fin I9 (.inl rfl) q9⟩
    | true =>
      refine .inl ⟨rfl, thnF (pi1.run _ s9 σ8 H9 _ I9 q9) fun xv s10 hx => thnF hx fun itv s11 ⟨it1, fp1, tn1, J1, H11, e1, I11, T1, st11, f11, W1, ⟨m1, w1⟩, turn1⟩ => ?_⟩
      subst e1
      have stat1 : ∀ {H' : Hp}, (∀ b ∈ fp1, H' b = none) → ∀ b ∈ fp1, FpOk (X.blk s3 (upd H1 D o0) scope ce fp) ([] ++ pinsAt fp s7.heap) H' b := fun hn b hb => ⟨hn b hb, (f11 b hb).2⟩
      have loop1 : codeAny (model X.prog X.w) X.A (.compLoop (dc2 kx vx tg iter tg1 iter1 ifs ifs1 scope pos) 1 (.ref it1) (.ref D) ce) (OkR fun s' => ∃ m, m < n ∧ ∃ i H', Inv (X.blk s3 (upd H1 D o0) scope ce fp) [] (wipe σ (own.map (·.2))) H' s' ∧ tn i s'.heap ∧ (∀ b ∈ fp, H' b = none) ∧ W i m H') s11 := by
          refine dc2_inner _ (fun k s' => ∃ j H', Inv (X.blk s3 (upd H1 D o0) scope ce fp) ([] ++ pinsAt fp s7.heap) (wipe σ8 vs1) H' s' ∧ tn1 j s'.heap ∧ (∀ b ∈ fp1, H' b = none) ∧ W1 j k H') ?_ m1 ⟨0, H11, I11.weak (wipe_length _ _) (fun j v e => (wipe_some e).1), st11, fun b hb => (f11 b hb).1, w1⟩
          rintro k s12 ⟨j, H12, I12, st12, n12, w12⟩
          rcases turn1 j k H12 w12 with ⟨stop1, nx1⟩ | ⟨go1, N1, hN1, step1⟩
          · exact thnF (T1.done (X.blk s3 (upd H1 D o0) scope ce fp) rfl rfl rfl hc j _ s12 _ H12 noE I12 (stat1 n12) st12 stop1) fun r s13 ⟨hr, I13⟩ => .inl ⟨hr, fin I13 (.inr rfl) nx1⟩
          · refine thnF (T1.item (X.blk s3 (upd H1 D o0) scope ce fp) rfl rfl rfl hc j _ s12 _ H12 noE I12 (stat1 n12) st12 go1) fun r s13 ⟨u1, hr, h13⟩ => .inr ⟨u1, hr, ?_⟩
            refine thnF h13 fun _ s14 ⟨x1, H14, I14, r14, y14, st14, n14⟩ => ?_
            refine thnF (pg1.run _ s14 _ H14 x1 u1 _ (I14.pinned (stat1 n14) (T1.obj _ _ st14)) r14 (step1 x1 H14 y14)) fun _ s15 ⟨σ15, H15, I15, hw15, q15⟩ => ?_
            refine thnF (pt1.run _ s15 σ15 H15 _ I15 q15) fun b1 s16 ⟨H16, I16, q16⟩ => ?_
            have fin1 : ∀ {s' : Shared} {H' : Hp}, Inv (X.blk s3 (upd H1 D o0) scope ce fp) (([] ++ pinsAt fp s7.heap) ++ pinsAt fp1 s14.heap) σ15 H' s' → N1 H' → ∃ m, m < k ∧ ∃ j H', Inv (X.blk s3 (upd H1 D o0) scope ce fp) ([] ++ pinsAt fp s7.heap) (wipe σ8 vs1) H' s' ∧ tn1 j s'.heap ∧ (∀ b ∈ fp1, H' b = none) ∧ W1 j m H' := fun I' nx =>
              let ⟨m', hm, w'⟩ := hN1 _ nx
              let ⟨a1, a2, a3⟩ := turn_end T1 st14 I' hw15
              ⟨m', hm, j + 1, _, a1, a2, a3, w'⟩
            cases b1 with
            | false => exact .inr ⟨rfl, fin1 I16 q16⟩
            | true =>
              refine .inl ⟨rfl, thnF (pk.run _ s16 σ15 H16 _ I16 q16) fun z s17 ⟨yk, H17, I17, r17, q17⟩ => ?_⟩
              refine thnF (pv'.run _ s17 σ15 H17 _ I17 q17) fun z2 s18 ⟨yv, H18, I18, r18, H19, g19, nx⟩ => ?_
              exact dca_set (X := X.blk s3 (upd H1 D o0) scope ce fp) hu I18 g19 r17 r18 fun s19 I19 => fin1 I19 nx
      exact dc2_start loop1 (T1.self X.A 0 _ _ _ st11 loop1)
theorem pe_dcA2 (o0 : HO) (h0 : o0 = .dK [] ∨ o0 = .dT []) (hu : X.A.units + 1 < cLine) (hc : X.calm = true) (hN : X.N.Nodup) (hi : PI X tg iter wi) (ok : BlkOk X.N X.env.scope scope own) (hv1 : ∀ i ∈ vs1, i ∈ own.map (·.2))
    (hg : ∀ (s : Shared) (H : Hp) (C : Addr) (cl : List (Str × Addr)) (fp : List Addr), PG (X.blk s H scope (blkE X scope C cl) fp) tg g) (ht : ∀ (s : Shared) (H : Hp) (C : Addr) (cl : List (Str × Addr)) (fp : List Addr), PTs (X.blk s H scope (blkE X scope C cl) fp) ifs tt)
    (hi1 : ∀ (s : Shared) (H : Hp) (C : Addr) (cl : List (Str × Addr)) (fp : List Addr), PI (X.blk s H scope (blkE X scope C cl) fp) tg1 iter1 wi1)
    (hg1 : ∀ (s : Shared) (H : Hp) (C : Addr) (cl : List (Str × Addr)) (fp : List Addr), PG (X.blk s H scope (blkE X scope C cl) fp) tg1 g1) (ht1 : ∀ (s : Shared) (H : Hp) (C : Addr) (cl : List (Str × Addr)) (fp : List Addr), PTs (X.blk s H scope (blkE X scope C cl) fp) ifs1 tt1)
    (hk : ∀ (s : Shared) (H : Hp) (C : Addr) (cl : List (Str × Addr)) (fp : List Addr), PE (X.blk s H scope (blkE X scope C cl) fp) kx tk) (hv : ∀ (s : Shared) (H : Hp) (C : Addr) (cl : List (Str × Addr)) (fp : List Addr), PE (X.blk s H scope (blkE X scope C cl) fp) vx tv)
    (hs : ∀ x, foldedSetIterable iter X.env x = pure x := by intro _; rfl) (hs1 : ∀ env x, foldedSetIterable iter1 env x = pure x := by intro _ _; rfl) :
    PE X (dc2 kx vx tg iter tg1 iter1 ifs ifs1 scope pos) (tDcA2 o0 wi g tt wi1 g1 tt1 tk tv (own.map (·.2)) vs1) := by
  refine ⟨fun pins s σ H Q I h => ?_⟩
  rw [arm_eval_DictComp]
  exact pe_dcA2_core o0 h0 hu hc hN hi ok hv1 hg ht hi1 hg1 ht1 hk hv hs hs1 I h dc_val
theorem ps_setDcA2 {i : Nat} {y : Str} {py spos : Pos}  (o0 : HO) (h0 : o0 = .dK [] ∨ o0 = .dT []) (hu : X.A.units + 1 < cLine) (hc : X.calm = true) (hN : X.N.Nodup) (hy : X.N[i]? = some y) (hyl : X.env.scope.names.lookup y = some .local)
    (hsw : swapsWith (dc2 kx vx tg iter tg1 iter1 ifs ifs1 scope pos) (some (.Name y py)) spos.line X.env = pure true) (hi : PI X tg iter wi) (ok : BlkOk X.N X.env.scope scope own) (hv1 : ∀ i ∈ vs1, i ∈ own.map (·.2))
    (hg : ∀ (s : Shared) (H : Hp) (C : Addr) (cl : List (Str × Addr)) (fp : List Addr), PG (X.blk s H scope (blkE X scope C cl) fp) tg g) (ht : ∀ (s : Shared) (H : Hp) (C : Addr) (cl : List (Str × Addr)) (fp : List Addr), PTs (X.blk s H scope (blkE X scope C cl) fp) ifs tt)
    (hi1 : ∀ (s : Shared) (H : Hp) (C : Addr) (cl : List (Str × Addr)) (fp : List Addr), PI (X.blk s H scope (blkE X scope C cl) fp) tg1 iter1 wi1)
    (hg1 : ∀ (s : Shared) (H : Hp) (C : Addr) (cl : List (Str × Addr)) (fp : List Addr), PG (X.blk s H scope (blkE X scope C cl) fp) tg1 g1) (ht1 : ∀ (s : Shared) (H : Hp) (C : Addr) (cl : List (Str × Addr)) (fp : List Addr), PTs (X.blk s H scope (blkE X scope C cl) fp) ifs1 tt1)
    (hk : ∀ (s : Shared) (H : Hp) (C : Addr) (cl : List (Str × Addr)) (fp : List Addr), PE (X.blk s H scope (blkE X scope C cl) fp) kx tk) (hv : ∀ (s : Shared) (H : Hp) (C : Addr) (cl : List (Str × Addr)) (fp : List Addr), PE (X.blk s H scope (blkE X scope C cl) fp) vx tv)
    (hs : ∀ x, foldedSetIterable iter X.env x = pure x := by intro _; rfl) (hs1 : ∀ env x, foldedSetIterable iter1 env x = pure x := by intro _ _; rfl) :
    PS X (.Assign [.Name y py] (dc2 kx vx tg iter tg1 iter1 ifs ifs1 scope pos) spos) (tAsg (tDcA2 o0 wi g tt wi1 g1 tt1 tk tv (own.map (·.2)) vs1) (gName i)) := by
  refine ⟨fun pins s σ H D I h => ?_⟩
  rw [exec_Assign_Name_used _ _ _ _ hsw]
  refine wpAny_bind (wpAny_standAt (wpAny_bind ?_))
  show wpAny _ X.A (do let _ ← comprehension (dc2 kx vx tg iter tg1 iter1 ifs ifs1 scope pos) scope X.env (firstIterPos [⟨tg, iter, ifs, 0⟩, ⟨tg1, iter1, ifs1, 0⟩] pos) newDict false (eval iter X.env) (some (assign (.Name y py) X.env))) _ _ s
  exact wpAny_bind (thn (pe_dcA2_core (Q := fun x H1 => gName i x σ H1 D.nx) (use := some (assign (.Name y py) X.env)) (pins := pins) (σ := σ) o0 h0 hu hc hN hi ok hv1 hg ht hi1 hg1 ht1 hk hv hs hs1 I h (dc_put (Dn := D) hN hy hyl)) fun _ s' hq => wpAny_pure (wpAny_pure hq))
end
end K80

set_option maxHeartbeats 4000000
/-! zip walked with a plain name for its pairs: the pair that was given out may still be held -/
namespace K80
open PySem PySem.Spec L2
open PyProof.Rows hiding St
/-- an iterator over a list or a tuple, as zip draws from it -/
structure Dw (prog : Program) (w : World) (it l : Addr) (pos : Nat → Heap → Prop) (src : Array Value → Heap → Prop) : Prop where
  item : ∀ {A : Around} {E : Value → Shared → Prop} {s : Shared} {k : Nat} {its : Array Value} {x : Value} {Q : Value → Shared → Prop}, pos k s.heap → src its s.heap → its[k]? = some x →
    (∀ h', pos (k + 1) h' → Heap.SameBut it s.heap h' → Q x { s with heap := h' }) → wpAny (model prog w) A (Builtin.SmallTypes.nextOf (.ref it)) Q E s
  fin : ∀ {A : Around} {E : Value → Shared → Prop} {s : Shared} {k : Nat} {its : Array Value} {Q : Value → Shared → Prop}, A.handled = none → pos k s.heap → src its s.heap → its[k]? = none →
    (∀ h' e, Heap.ExtBut it s.heap h' → (∃ o, h'.get? e = some o ∧ o.cls = .type "StopIteration") → E (.ref e) { s with heap := h' }) → wpAny (model prog w) A (Builtin.SmallTypes.nextOf (.ref it)) Q E s
  keep : ∀ {k : Nat} {h h' : Heap}, pos k h → (∀ o, h.get? it = some o → h'.get? it = some o) → pos k h'
  keepS : ∀ {its : Array Value} {h h' : Heap}, src its h → (∀ o, h.get? l = some o → h'.get? l = some o) → src its h'
  there : ∀ {k : Nat} {h : Heap}, pos k h → ∃ o vs, h.get? it = some o ∧ o.data = .fields vs
theorem dw_list {prog : Program} {w : World} (it l : Addr) : Dw prog w it l (fun k h => h.IsListIter it l k) (fun its h => h.IsList l its) where
  item := fun a b c d => wpAny_nextOf_list_item a b c d
  fin := fun a b c d e => wpAny_nextOf_list_end a b c d e
  keep := fun a k => a.at k
  keepS := fun ⟨o, a, b⟩ k => ⟨o, k o a, b⟩
  there := fun ⟨o, a, _, b⟩ => ⟨o, _, a, b⟩
theorem dw_tup {prog : Program} {w : World} (it l : Addr) : Dw prog w it l (fun k h => h.IsTupleIter it l k) (fun its h => h.IsTuple l its) where
  item := fun a b c d => RZ.nextOf_tuple_item a b c d
  fin := fun a b c d e => RZ.nextOf_tuple_end a b c d e
  keep := fun a k => a.at k
  keepS := fun ⟨o, a, b⟩ k => ⟨o, k o a, b⟩
  there := fun ⟨o, a, _, b⟩ => ⟨o, _, a, b⟩
/-- the zip's record, its first fields f0 and f -/
def ZR (h : Heap) (z TI TO : Addr) (f0 : Value) (f : Bool) : Prop := h.get? z = some { cls := .type "zip", dict := none, data := .fields #[f0, .bool f, .bool false, .ref TI, .ref TO], slots := #[] }
/-- .. whatever it gave out -/
def ZAny (h : Heap) (z TI TO : Addr) : Prop := ∃ (f0 : Value) (f : Bool), ZR h z TI TO f0 f ∧ (f0 = .none ∨ ∃ T : Addr, f0 = rawInt T)
section
variable {prog : Program} {w : World} {A : Around} {E : Value → Shared → Prop} {s : Shared} {z TI TO i1 i2 l1 l2 : Addr}
theorem zfree {f0 : Value} {f : Bool} {Q : Bool → Shared → Prop} (hz : ZR s.heap z TI TO f0 f) (hf : f0 = .none ∨ ∃ T : Addr, f0 = rawInt T) (h1 : ∀ h' f', ZR h' z TI TO f0 f' → Heap.SameBut z s.heap h' → Q false { s with heap := h' }) (h2 : Q true s) :
    wpAny (model prog w) A (Builtin.SmallTypes.ownedTupleIsFree (.ref z)) Q E s := by
  rcases hf with rfl | ⟨T, rfl⟩
  · unfold Builtin.SmallTypes.ownedTupleIsFree
    exact wpAny_bind (wpAny_field hz rfl (x := .none) rfl (wpAny_pure h2))
  · cases hT : s.heap.get? T with
    | some oT => exact wpAny_tupleHeld_zip hz hT fun h' a b => h1 h' true a b
    | none =>
      unfold Builtin.SmallTypes.ownedTupleIsFree
      refine wpAny_bind (wpAny_field hz rfl (x := rawInt T) rfl ?_)
      show wpAny _ _ (loadIfAlive ((T : Int).toNat) >>= _) _ _ _
      rw [Int.toNat_natCast]
      have at0 : ∀ {Q : Option Obj → Shared → Prop}, Q (s.heap.get? T) s → wpAny (model prog w) A (loadIfAlive T) Q E s := fun q => fun _ _ _ => q
      refine wpAny_bind (at0 ?_)
      rw [hT]
      exact wpAny_pure h2
/-- the next pair: a new tuple, whatever became of the last one -/
theorem znext {p1 p2 : Nat → Heap → Prop} {r1 r2 : Array Value → Heap → Prop} {k1 k2 : Nat} {xs ys : Array Value} {x y a b : Value} {Q : Value → Shared → Prop} (D1 : Dw prog w i1 l1 p1 r1) (D2 : Dw prog w i2 l2 p2 r2) (D : ZipApart z TI TO i1 i2 l1 l2)
    (hz : ZAny s.heap z TI TO) (hTI : IsPair s.heap TI (.ref i1) (.ref i2)) (hTO : IsPair s.heap TO a b) (h1 : p1 k1 s.heap) (h2 : p2 k2 s.heap) (hl1 : r1 xs s.heap) (hl2 : r2 ys s.heap) (hx : xs[k1]? = some x) (hy : ys[k2]? = some y)
    (hQ : ∀ (h' : Heap) (a' b' : Value), ZAny h' z TI TO → IsPair h' TO a' b' → p1 (k1 + 1) h' → p2 (k2 + 1) h' → IsPair h' s.heap.objs.size x y → h'.objs.size = s.heap.objs.size + 1 → (∀ c o, c ≠ z → c ≠ TO → c ≠ i1 → c ≠ i2 → s.heap.get? c = some o → h'.get? c = some o) →
      Q (.ref s.heap.objs.size) { s with heap := h' }) : wpAny (model prog w) A (Builtin.«zip.__next__» ⟨[.ref z], []⟩) (fun fin s' => ∃ v, fin = .done (.ret v) ∧ Q v s') E s := by
  obtain ⟨f0, f, hz, hf⟩ := hz
  show wpAny _ _ (field (.ref z) 2 >>= fun _ => _) _ _ _
  refine wpAny_bind (wpAny_field (x := .bool false) hz rfl rfl ?_)
  show wpAny _ _ (field (.ref z) 3 >>= fun _ => _) _ _ _
  refine wpAny_bind (wpAny_field (x := .ref TI) hz rfl rfl (wpAny_bind (wpAny_seqItems hTI rfl ?_)))
  show wpAny _ _ (Builtin.SmallTypes.ownedTupleIsFree (.ref z) >>= fun _ => _) _ _ _
  have ez : i1 ≠ z := D.i1z
  refine wpAny_bind (zfree hz hf (fun g1 f' hz1 hs1 => ?_) ?_)
  · -- the last pair is still there
    simp only [Bool.false_eq_true, if_false]
    refine wpAny_bind ?_
    rw [← Array.forIn_toList]
    simp only [List.forIn_cons, List.forIn_nil]
    refine wpAny_bind (wpAny_bind (wpAny_holding ?_))
    show wpAny _ _ (Builtin.SmallTypes.nextOf (.ref i1) >>= fun _ => _) _ _ _
    refine wpAny_bind (D1.item (s := { s with heap := g1 }) (D1.keep h1 fun o e => hs1.extBut _ _ D.i1z e) (D1.keepS hl1 fun o e => hs1.extBut _ _ D.l1z e) hx fun g2 h12 hs2 => wpAny_pure (wpAny_pure ?_))
    refine wpAny_bind (wpAny_bind (wpAny_holding ?_))
    show wpAny _ _ (Builtin.SmallTypes.nextOf (.ref i2) >>= fun _ => _) _ _ _
    refine wpAny_bind (D2.item (s := { s with heap := g2 }) (D2.keep h2 fun o e => hs2.extBut _ _ D.i12.symm (hs1.extBut _ _ D.i2z e)) (D2.keepS hl2 fun o e => hs2.extBut _ _ D.l2i1 (hs1.extBut _ _ D.l2z e)) hy fun g3 h23 hs3 => wpAny_pure (wpAny_pure (wpAny_pure ?_)))
    show wpAny _ _ (newTuple [x, y] >>= fun _ => _) _ _ _
    refine wpAny_bind (wpAny_newTuple (wpAny_pure ⟨_, rfl, ?_⟩))
    have hsz : g3.objs.size = s.heap.objs.size := hs3.1.trans (hs2.1.trans hs1.1)
    have hk : ∀ c o, c ≠ z → c ≠ i1 → c ≠ i2 → s.heap.get? c = some o → g3.get? c = some o := fun c o c1 c2 c3 e => hs3.extBut _ _ c3 (hs2.extBut _ _ c2 (hs1.extBut _ _ c1 e))
    have hp : IsPair (g3.push { cls := .type "tuple", data := .seq #[x, y] }) g3.objs.size x y := Heap.get?_push_size _ rfl
    have hw : (g3.push { cls := .type "tuple", data := .seq #[x, y] }).objs.size = g3.objs.size + 1 := Heap.size_push ..
    show Q (.ref g3.objs.size) _
    rw [hsz] at hp hw ⊢
    exact hQ _ a b ⟨f0, f', Heap.get?_push_of_some _ (hs3.extBut _ _ D.i2z.symm (hs2.extBut _ _ D.i1z.symm hz1)), hf⟩ (Heap.get?_push_of_some _ (hk _ _ D.TOz D.TOi1 D.TOi2 hTO)) (D1.keep h12 fun o e => Heap.get?_push_of_some _ (hs3.extBut _ _ D.i12 e))
      (D2.keep h23 fun o e => Heap.get?_push_of_some _ e) hp hw fun c o c1 _ c3 c4 e => Heap.get?_push_of_some _ (hk c o c1 c3 c4 e)
  · -- the zip's own tuple is free
    simp only [if_true]
    refine wpAny_bind (wpAny_rule (wpAny_bind (wpAny_field (x := .ref TO) hz rfl rfl (wpAny_bind (wpAny_setField_rec hz (by simp) fun g1 hz1 hs1 => ?_)))))
    replace hz1 : ZR g1 z TI TO .ellipsis f := hz1
    refine wpAny_bind ?_
    simp only [List.zipIdx_cons, List.zipIdx_nil, List.forIn_cons, List.forIn_nil]
    refine wpAny_bind (wpAny_bind (wpAny_onRaise ?_))
    show wpAny _ _ (Builtin.SmallTypes.nextOf (.ref i1) >>= fun _ => _) _ _ _
    refine wpAny_bind (D1.item (s := { s with heap := g1 }) (D1.keep h1 fun o e => hs1.extBut _ _ D.i1z e) (D1.keepS hl1 fun o e => hs1.extBut _ _ D.l1z e) hx fun g2 h12 hs2 => wpAny_pure ?_)
    have t2 : IsPair g2 TO a b := hs2.extBut _ _ D.TOi1 (hs1.extBut _ _ D.TOz hTO)
    refine wpAny_bind (wpAny_seqItems t2 rfl (wpAny_bind (wpAny_updateSeq_pair t2 fun g3 t3 hs3 => wpAny_bind (wpAny_letGo (wpAny_pure ?_)))))
    replace t3 : IsPair g3 TO x b := t3
    refine wpAny_bind (wpAny_bind (wpAny_onRaise ?_))
    show wpAny _ _ (Builtin.SmallTypes.nextOf (.ref i2) >>= fun _ => _) _ _ _
    refine wpAny_bind (D2.item (s := { s with heap := g3 }) (D2.keep h2 fun o e => hs3.extBut _ _ D.TOi2.symm (hs2.extBut _ _ D.i12.symm (hs1.extBut _ _ D.i2z e))) (D2.keepS hl2 fun o e => hs3.extBut _ _ D.l2TO (hs2.extBut _ _ D.l2i1 (hs1.extBut _ _ D.l2z e))) hy fun g4 h24 hs4 => wpAny_pure ?_)
    have t4 : IsPair g4 TO x b := hs4.extBut _ _ D.TOi2 t3
    refine wpAny_bind (wpAny_seqItems t4 rfl (wpAny_bind (wpAny_updateSeq_pair t4 fun g5 t5 hs5 => wpAny_bind (wpAny_letGo (wpAny_pure (wpAny_pure ?_))))))
    replace t5 : IsPair g5 TO x y := t5
    refine wpAny_bind (wpAny_seqItems t5 rfl (wpAny_bind (wpAny_newTuple ?_)))
    have hsz : g5.objs.size = s.heap.objs.size := hs5.1.trans (hs4.1.trans (hs3.1.trans (hs2.1.trans hs1.1)))
    have z5 : ZR g5 z TI TO .ellipsis f := hs5.extBut _ _ D.TOz.symm (hs4.extBut _ _ D.i2z.symm (hs3.extBut _ _ D.TOz.symm (hs2.extBut _ _ D.i1z.symm hz1)))
    have hk : ∀ c o, c ≠ z → c ≠ TO → c ≠ i1 → c ≠ i2 → s.heap.get? c = some o → g5.get? c = some o := fun c o c1 c2 c3 c4 e => hs5.extBut _ _ c2 (hs4.extBut _ _ c4 (hs3.extBut _ _ c2 (hs2.extBut _ _ c3 (hs1.extBut _ _ c1 e))))
    have q1 : p1 (k1 + 1) g5 := D1.keep h12 fun o e => hs5.extBut _ _ D.TOi1.symm (hs4.extBut _ _ D.i12 (hs3.extBut _ _ D.TOi1.symm e))
    have q2 : p2 (k2 + 1) g5 := D2.keep h24 fun o e => hs5.extBut _ _ D.TOi2.symm e
    show wpAny _ _ (Builtin.SmallTypes.ownedTupleHandOut (.ref z) (.ref g5.objs.size) >>= fun _ => _) _ _ _
    refine wpAny_bind ?_
    unfold Builtin.SmallTypes.ownedTupleHandOut
    have z6 : ZR (g5.push { cls := .type "tuple", data := .seq #[x, y] }) z TI TO .ellipsis f := Heap.get?_push_of_some _ z5
    refine wpAny_bind (wpAny_setField_rec z6 (by simp) fun g7 hz7 hs7 => ?_)
    replace hz7 : ZR g7 z TI TO (rawInt g5.objs.size) f := hz7
    refine wpAny_setField_rec hz7 (by simp) fun g8 hz8 hs8 => ?_
    replace hz8 : ZR g8 z TI TO (rawInt g5.objs.size) false := hz8
    have up : ∀ c o, c ≠ z → g5.get? c = some o → g8.get? c = some o := fun c o c1 e => hs8.extBut _ _ c1 (hs7.extBut _ _ c1 (Heap.get?_push_of_some _ e))
    have zl : z < g5.objs.size := Heap.lt_size z5
    have tn : IsPair g8 g5.objs.size x y := hs8.extBut _ _ (Nat.ne_of_gt zl) (hs7.extBut _ _ (Nat.ne_of_gt zl) (Heap.get?_push_size _ rfl))
    have w8 : g8.objs.size = g5.objs.size + 1 := hs8.1.trans (hs7.1.trans (Heap.size_push ..))
    refine wpAny_pure ⟨_, rfl, ?_⟩
    show Q (.ref g5.objs.size) _
    rw [hsz] at hz8 tn w8 ⊢
    exact hQ g8 x y ⟨_, false, hz8, .inr ⟨_, rfl⟩⟩ (up _ _ D.TOz t5) (D1.keep q1 fun o e => up _ o D.i1z e) (D2.keep q2 fun o e => up _ o D.i2z e) tn w8 fun c o c1 c2 c3 c4 e => up c o c1 (hk c o c1 c2 c3 c4 e)
/-- no pair more -/
theorem zlast {p1 p2 : Nat → Heap → Prop} {r1 r2 : Array Value → Heap → Prop} {k1 k2 : Nat} {xs ys : Array Value} {a b : Value} {Q : Fin → Shared → Prop} (hh : A.handled = none) (D1 : Dw prog w i1 l1 p1 r1) (D2 : Dw prog w i2 l2 p2 r2) (D : ZipApart z TI TO i1 i2 l1 l2)
    (hz : ZAny s.heap z TI TO) (hTI : IsPair s.heap TI (.ref i1) (.ref i2)) (hTO : IsPair s.heap TO a b) (h1 : p1 k1 s.heap) (h2 : p2 k2 s.heap) (hl1 : r1 xs s.heap) (hl2 : r2 ys s.heap) (hend : xs[k1]? = none ∨ ys[k2]? = none)
    (hE : ∀ h' e, (∀ c o, c ≠ z → c ≠ TO → c ≠ i1 → c ≠ i2 → s.heap.get? c = some o → h'.get? c = some o) → (∃ o, h'.get? e = some o ∧ o.cls = .type "StopIteration") → E (.ref e) { s with heap := h' }) :
    wpAny (model prog w) A (Builtin.«zip.__next__» ⟨[.ref z], []⟩) Q E s := by
  obtain ⟨f0, f, hz, hf⟩ := hz
  show wpAny _ _ (field (.ref z) 2 >>= fun _ => _) _ _ _
  refine wpAny_bind (wpAny_field (x := .bool false) hz rfl rfl ?_)
  show wpAny _ _ (field (.ref z) 3 >>= fun _ => _) _ _ _
  refine wpAny_bind (wpAny_field (x := .ref TI) hz rfl rfl (wpAny_bind (wpAny_seqItems hTI rfl ?_)))
  show wpAny _ _ (Builtin.SmallTypes.ownedTupleIsFree (.ref z) >>= fun _ => _) _ _ _
  refine wpAny_bind (zfree hz hf (fun g1 f' hz1 hs1 => ?_) ?_)
  · simp only [Bool.false_eq_true, if_false]
    refine wpAny_bind ?_
    rw [← Array.forIn_toList]
    simp only [List.forIn_cons, List.forIn_nil]
    refine wpAny_bind (wpAny_bind (wpAny_holding ?_))
    show wpAny _ _ (Builtin.SmallTypes.nextOf (.ref i1) >>= fun _ => _) _ _ _
    have a1 := D1.keep h1 (h' := g1) fun o e => hs1.extBut _ _ D.i1z e
    have b1 := D1.keepS hl1 (h' := g1) fun o e => hs1.extBut _ _ D.l1z e
    cases hx : xs[k1]? with
    | none => exact wpAny_bind (D1.fin (s := { s with heap := g1 }) hh a1 b1 hx fun g2 e hs2 he => hE g2 e (fun c o c1 _ c3 _ q => hs2 _ _ c3 (hs1.extBut _ _ c1 q)) he)
    | some x =>
      have hy : ys[k2]? = none := hend.resolve_left fun q => by rw [hx] at q; cases q
      refine wpAny_bind (D1.item (s := { s with heap := g1 }) a1 b1 hx fun g2 h12 hs2 => wpAny_pure (wpAny_pure (wpAny_bind (wpAny_bind (wpAny_holding ?_)))))
      show wpAny _ _ (Builtin.SmallTypes.nextOf (.ref i2) >>= fun _ => _) _ _ _
      exact wpAny_bind (D2.fin (s := { s with heap := g2 }) hh (D2.keep h2 fun o e => hs2.extBut _ _ D.i12.symm (hs1.extBut _ _ D.i2z e)) (D2.keepS hl2 fun o e => hs2.extBut _ _ D.l2i1 (hs1.extBut _ _ D.l2z e)) hy fun g3 e hs3 he =>
        hE g3 e (fun c o c1 _ c3 c4 q => hs3 _ _ c4 (hs2.extBut _ _ c3 (hs1.extBut _ _ c1 q))) he)
  · simp only [if_true]
    refine wpAny_bind (wpAny_rule (wpAny_bind (wpAny_field (x := .ref TO) hz rfl rfl (wpAny_bind (wpAny_setField_rec hz (by simp) fun g1 hz1 hs1 => ?_)))))
    replace hz1 : ZR g1 z TI TO .ellipsis f := hz1
    refine wpAny_bind ?_
    simp only [List.zipIdx_cons, List.zipIdx_nil, List.forIn_cons, List.forIn_nil]
    refine wpAny_bind (wpAny_bind (wpAny_onRaise ?_))
    show wpAny _ _ (Builtin.SmallTypes.nextOf (.ref i1) >>= fun _ => _) _ _ _
    have a1 := D1.keep h1 (h' := g1) fun o e => hs1.extBut _ _ D.i1z e
    have b1 := D1.keepS hl1 (h' := g1) fun o e => hs1.extBut _ _ D.l1z e
    have nz : ∀ {g : Heap} {e : Addr} {g0 : Value} {ff : Bool}, ZR g z TI TO g0 ff → (∃ o, g.get? e = some o ∧ o.cls = .type "StopIteration") → e ≠ z := fun hg ⟨o, ho, hc⟩ q => by
      rw [q, show _ = _ from hg] at ho
      cases ho
      injection hc with q'
      exact absurd q' (by decide)
    cases hx : xs[k1]? with
    | none =>
      refine wpAny_bind (D1.fin (s := { s with heap := g1 }) hh a1 b1 hx fun g2 e hs2 he => ?_)
      have z2 : ZR g2 z TI TO .ellipsis f := hs2 _ _ D.i1z.symm hz1
      have hez := nz z2 he
      obtain ⟨oe, hoe, hce⟩ := he
      exact wpAny_setField_rec z2 (by simp) fun g3 _ hs3 => hE g3 e (fun c o c1 _ c3 _ q => hs3.extBut _ _ c1 (hs2 _ _ c3 (hs1.extBut _ _ c1 q))) ⟨oe, hs3.extBut _ _ hez hoe, hce⟩
    | some x =>
      have hy : ys[k2]? = none := hend.resolve_left fun q => by rw [hx] at q; cases q
      refine wpAny_bind (D1.item (s := { s with heap := g1 }) a1 b1 hx fun g2 h12 hs2 => wpAny_pure ?_)
      have t2 : IsPair g2 TO a b := hs2.extBut _ _ D.TOi1 (hs1.extBut _ _ D.TOz hTO)
      refine wpAny_bind (wpAny_seqItems t2 rfl (wpAny_bind (wpAny_updateSeq_pair t2 fun g3 t3 hs3 => wpAny_bind (wpAny_letGo (wpAny_pure (wpAny_bind (wpAny_bind (wpAny_onRaise ?_))))))))
      show wpAny _ _ (Builtin.SmallTypes.nextOf (.ref i2) >>= fun _ => _) _ _ _
      refine wpAny_bind (D2.fin (s := { s with heap := g3 }) hh (D2.keep h2 fun o e => hs3.extBut _ _ D.TOi2.symm (hs2.extBut _ _ D.i12.symm (hs1.extBut _ _ D.i2z e))) (D2.keepS hl2 fun o e => hs3.extBut _ _ D.l2TO (hs2.extBut _ _ D.l2i1 (hs1.extBut _ _ D.l2z e))) hy fun g4 e hs4 he => ?_)
      have z4 : ZR g4 z TI TO .ellipsis f := hs4 _ _ D.i2z.symm (hs3.extBut _ _ D.TOz.symm (hs2.extBut _ _ D.i1z.symm hz1))
      have hez := nz z4 he
      obtain ⟨oe, hoe, hce⟩ := he
      exact wpAny_setField_rec z4 (by simp) fun g5 _ hs5 => hE g5 e (fun c o c1 c2 c3 c4 q => hs5.extBut _ _ c1 (hs4 _ _ c4 (hs3.extBut _ _ c2 (hs2.extBut _ _ c3 (hs1.extBut _ _ c1 q))))) ⟨oe, hs5.extBut _ _ hez hoe, hce⟩
end

/-! ### the walk -/
/-- the pairs (xs[i], ys[i]), each a new tuple; src tells a list's items or a tuple's -/
def ItZ (S : Hp → Addr → List V → Prop) (a b : Addr) : It :=
  ⟨fun i H => ∃ (xs ys : List V) (x y : V), S H a xs ∧ S H b ys ∧ xs[i]? = some x ∧ ys[i]? = some y,
    fun i H v H' => ∃ T x y, v = .ref T ∧ H T = none ∧ H' = upd H T (.tup [x, y]) ∧ (∀ xs, S H a xs → xs[i]? = some x) ∧ ∀ ys, S H b ys → ys[i]? = some y,
    fun i H => ∃ xs ys : List V, S H a xs ∧ S H b ys ∧ (xs.length ≤ i ∨ ys.length ≤ i)⟩
theorem turn_z {P : Program} {w : World} {K : PySem.W.Frag} {n : Str} {tpos : Pos} {a b z TI TO i1 i2 : Addr} {p1 p2 : Nat → Heap → Prop} {r1 r2 : Array Value → Heap → Prop} (S : Hp → Addr → List V → Prop) (D1 : Dw P w i1 a p1 r1) (D2 : Dw P w i2 b p2 r2) (D : ZipApart z TI TO i1 i2 a b)
    (rd : ∀ (X : Cx), X.prog = P → X.w = w → X.K = K → ∀ (pins : List (Addr × Obj)) (σ : L2.St) (H : Hp) (s : Shared) (xs : List V), Inv X pins σ H s → (S H a xs → ∃ its : List Value, Vals xs its ∧ r1 its.toArray s.heap) ∧ (S H b xs → ∃ its : List Value, Vals xs its ∧ r2 its.toArray s.heap))
    (inj : ∀ (X : Cx), X.prog = P → X.w = w → X.K = K → ∀ (pins : List (Addr × Obj)) (σ : L2.St) (H : Hp) (s : Shared) (c : Addr) (xs ys : List V), Inv X pins σ H s → S H c xs → S H c ys → xs = ys) :
    Turn P w K (.Name n tpos) (ItZ S a b) [z, TI, TO, i1, i2] z (fun i h => ZAny h z TI TO ∧ IsPair h TI (.ref i1) (.ref i2) ∧ (∃ x y, IsPair h TO x y) ∧ p1 i h ∧ p2 i h) where
  mem := by simp
  obj := fun i h ⟨⟨f0, f, hz, _⟩, hTI, ⟨x, y, hTO⟩, h1, h2⟩ c hc => by
    have ⟨o1, v1, e1, d1⟩ := D1.there h1
    have ⟨o2, v2, e2, d2⟩ := D2.there h2
    simp only [List.mem_cons, List.not_mem_nil, or_false] at hc
    rcases hc with rfl | rfl | rfl | rfl | rfl
    · exact ⟨_, hz, fun v q => nomatch q⟩
    · exact ⟨_, hTI, fun v q => nomatch q⟩
    · exact ⟨_, hTO, fun v q => nomatch q⟩
    · exact ⟨o1, e1, fun v q => by rw [d1] at q; cases q⟩
    · exact ⟨o2, e2, fun v q => by rw [d2] at q; cases q⟩
  keep := fun i h h' ⟨⟨f0, f, hz, hf⟩, hTI, ⟨x, y, hTO⟩, h1, h2⟩ k =>
    ⟨⟨f0, f, k z (by simp) _ hz, hf⟩, k TI (by simp) _ hTI, ⟨x, y, k TO (by simp) _ hTO⟩, D1.keep h1 (k i1 (by simp)), D2.keep h2 (k i2 (by simp))⟩
  item := by
    intro X hP hw hK hc i pins s σ H E I hf ⟨hz, hTI, ⟨x0, y0, hTO⟩, h1, h2⟩ ⟨xs, ys, x, y, hqx, hqy, hx, hy⟩
    have ⟨its, rv, s1⟩ := (rd X hP hw hK pins σ H s xs I).1 hqx
    have ⟨its2, rv2, s2⟩ := (rd X hP hw hK pins σ H s ys I).2 hqy
    have ⟨u, hu, ru⟩ := rv.get hx
    have ⟨u2, hu2, ru2⟩ := rv2.get hy
    have hT : s.TypeIs (.ref z) "zip" := by obtain ⟨f0, f, q, _⟩ := hz; exact ⟨_, q, rfl⟩
    unfold pyNext
    subst hP hw hK
    refine wpAny_bind (wpAny_attempt (wpAny_callSpecial?_slot (name := Str.ofString "__next__") hT F.slot_zip_next (wpAny_call_entry F.slot_zip_next hT F.entry_zip_next
      (znext (x := u) (y := u2) D1 D2 D hz hTI hTO h1 h2 s1 s2 (by simpa using hu) (by simpa using hu2) fun h' a' b' z' TO' h1' h2' nT hsz hk => wpAny_pure ⟨_, rfl, ?_⟩) (F.args_zip_next_1 _))))
    unfold letOwnedTupleGo
    refine wpAny_pure ?_
    have fr := I.hok.fresh (Nat.le_refl s.heap.objs.size)
    refine ⟨.ref s.heap.objs.size, upd H s.heap.objs.size (.tup [x, y]), I.turnedNew (t' := s.toks) (ch := [z, TI, TO, i1, i2]) (fun c o hb q => hk c o (fun e => hb (by simp [e])) (fun e => hb (by simp [e])) (fun e => hb (by simp [e])) (fun e => hb (by simp [e])) q) hf (Nat.le_refl _)
      ⟨by show 2 ≤ sizeLine; decide, [u, u2], .cons ru (.cons ru2 .nil), ⟨_, nT, rfl, _, rfl⟩⟩, rfl, ⟨_, x, y, rfl, fr, rfl, fun l hl => by rw [inj X rfl rfl rfl pins σ H s a l xs I hl hqx]; exact hx, fun l hl => by rw [inj X rfl rfl rfl pins σ H s b l ys I hl hqy]; exact hy⟩,
      ⟨z', hk _ _ D.TIz D.TITO D.TIi1 D.TIi2 hTI, ⟨_, _, TO'⟩, h1', h2'⟩, fun c hcm => ?_⟩
    have hn := hf c hcm
    have hlt : c < s.heap.objs.size := by
      have ⟨o1, _, e1, _⟩ := D1.there h1
      have ⟨o2, _, e2, _⟩ := D2.there h2
      obtain ⟨f0, f, q, _⟩ := hz
      simp only [List.mem_cons, List.not_mem_nil, or_false] at hcm
      rcases hcm with rfl | rfl | rfl | rfl | rfl
      · exact Heap.lt_size q
      · exact Heap.lt_size hTI
      · exact Heap.lt_size hTO
      · exact Heap.lt_size e1
      · exact Heap.lt_size e2
    rw [upd_ne (Nat.ne_of_lt hlt)]
    exact hn.1
  done := by
    intro X hP hw hK hc i pins s σ H E I hf ⟨hz, hTI, ⟨x0, y0, hTO⟩, h1, h2⟩ ⟨xs, ys, hqx, hqy, hend⟩
    have ⟨its, rv, s1⟩ := (rd X hP hw hK pins σ H s xs I).1 hqx
    have ⟨its2, rv2, s2⟩ := (rd X hP hw hK pins σ H s ys I).2 hqy
    have e1 := rv.length
    have e2 := rv2.length
    have hT : s.TypeIs (.ref z) "zip" := by obtain ⟨f0, f, q, _⟩ := hz; exact ⟨_, q, rfl⟩
    have he : its.toArray[i]? = none ∨ its2.toArray[i]? = none := by
      rcases hend with q | q
      · exact .inl (by simp; omega)
      · exact .inr (by simp; omega)
    subst hP hw hK
    unfold pyNext
    refine wpAny_bind (wpAny_attempt (wpAny_callSpecial?_slot (name := Str.ofString "__next__") hT F.slot_zip_next (wpAny_call_entry F.slot_zip_next hT F.entry_zip_next (zlast (I.ok.hd hc) D1 D2 D hz hTI hTO h1 h2 s1 s2 he fun h' e hk ⟨o, ho, hcl⟩ => ?_) (F.args_zip_next_1 _))))
    refine wpAny_bind (wpAny_isInstance (T := "StopIteration") (b := true) ⟨o, ho, hcl⟩ isSubtype_stop (wpAny_pure ⟨rfl, ?_⟩))
    exact I.turnedL (t' := s.toks) (ch := [z, TI, TO, i1, i2]) (fun c o hb q => hk c o (fun e => hb (by simp [e])) (fun e => hb (by simp [e])) (fun e => hb (by simp [e])) (fun e => hb (by simp [e])) q) hf
  self := by
    intro A i s Q E ⟨⟨f0, f, hz, _⟩, _⟩ h
    have hT : s.TypeIs (.ref z) "zip" := ⟨_, hz, rfl⟩
    exact wpAny_pyIter_slot hT F.slot_zip_iter (wpAny_call_entry F.slot_zip_iter hT F.entry_zip_iter (show wpAny _ _ (ret (.ref z)) _ _ s from wpAny_pure ⟨_, rfl, "zip", _, hT, F.slot_zip_next.lookup, h⟩) (F.args_zip_iter_1 _))
/-- zip(x, y) of two lists or two tuples -/
def iZ1 (K : PySem.W.Frag) (ta : TA) : TI := fun σ H R => ta σ H fun vs H1 => ∃ a b xs ys, vs = [.ref a, .ref b] ∧ ((SqL K H1 a xs ∧ SqL K H1 b ys ∧ R (ItZ (SqL K) a b) H1) ∨ (SqT K H1 a xs ∧ SqT K H1 b ys ∧ R (ItZ (SqT K) a b) H1))
theorem pi_zip1 {X : Cx} {e e2 : Expr} {ta : TA} {p pos tpos : Pos} {n : Str} (hg : Gl X "zip") (hm : X.mg "zip" = none) (ha : PA X [e, e2] ta)
    (hs : starEach [e, e2] X.env = (false, eval e X.env) :: starEach [e2] X.env := by rfl) (hpl : (backTo pos (starEach [e2] X.env)).any (·.1) = false := by rfl) : PI X (.Name n tpos) (.Call (.Name "zip" p) [e, e2] [] pos) (iZ1 X.K ta) := by
  refine ⟨fun pins s σ H R I h => Call_ (ld_blt I hg hm PyProof.Rows.boot_zip (PyProof.Rows.callWith_type1 (thn (ha.run pos pins s σ H _ I h) fun us s1 ⟨vs, H1, I1, r1, a, b, xs, ys, ex, q1⟩ => ?_) hs hpl))⟩
  rw [ex] at r1
  obtain ⟨u1, u2, eu, q1a, q1b⟩ := vals2 r1
  have e1 : u1 = .ref a := q1a
  have e2 : u2 = .ref b := q1b
  rw [eu, e1, e2]
  have fr : ∀ c, c ∈ [s1.heap.objs.size + 4, s1.heap.objs.size + 2, s1.heap.objs.size + 3, s1.heap.objs.size, s1.heap.objs.size + 1] → FpOk X pins H1 c := fun c hcm => by
    have hle : s1.heap.objs.size ≤ c := by
      simp only [List.mem_cons, List.not_mem_nil, or_false] at hcm
      rcases hcm with rfl | rfl | rfl | rfl | rfl
      · exact Nat.le_add_right _ _
      · exact Nat.le_add_right _ _
      · exact Nat.le_add_right _ _
      · exact Nat.le_refl _
      · exact Nat.le_add_right _ _
    exact I1.fpOk hle (I1.hok.fresh hle)
  rcases q1 with ⟨hqx, hqy, q⟩ | ⟨hqx, hqy, q⟩
  · have ⟨its, rv, c1, _⟩ := I1.list hqx
    have ⟨its2, rv2, c2, _⟩ := I1.list hqy
    refine call_zip_2 c1.isList c2.isList fun h' hz hTI hTO h1 h2 hsz hk => wpAny_pyIter_zip hz ?_
    refine ⟨_, [_, _, _, _, _], _, _, H1, rfl, I1.kept (t' := s1.toks) hk, turn_z (S := SqL X.K) (dw_list _ _) (dw_list _ _) (PySem.W.ktu_apart s1.heap.objs.size a b c1.lt c2.lt) ?_ ?_, ⟨⟨_, false, hz, .inl rfl⟩, hTI, ⟨_, _, hTO⟩, h1, h2⟩, fr, q⟩
    · intro Y _ _ eK pins σ H s xs J
      rw [← eK]
      exact ⟨fun z => let ⟨i, v, d, _⟩ := J.list z; ⟨i, v, d.isList⟩, fun z => let ⟨i, v, d, _⟩ := J.list z; ⟨i, v, d.isList⟩⟩
    · intro Y _ _ eK pins σ H s c xs ys J
      rw [← eK]
      exact J.list_inj
  · have ⟨its, rv, c1, _⟩ := I1.tuple hqx
    have ⟨its2, rv2, c2, _⟩ := I1.tuple hqy
    have ⟨o1, ho1, _⟩ := id c1
    have ⟨o2, ho2, _⟩ := id c2
    refine RZ.call_zipT (show s1.heap.IsTuple a its.toArray from c1) (show s1.heap.IsTuple b its2.toArray from c2) fun h' hz hTI hTO h1 h2 hsz hk => wpAny_pyIter_zip hz ?_
    refine ⟨_, [_, _, _, _, _], _, _, H1, rfl, I1.kept (t' := s1.toks) hk, turn_z (S := SqT X.K) (dw_tup _ _) (dw_tup _ _) (PySem.W.ktu_apart s1.heap.objs.size a b (Heap.lt_size ho1) (Heap.lt_size ho2)) ?_ ?_, ⟨⟨_, false, hz, .inl rfl⟩, hTI, ⟨_, _, hTO⟩, h1, h2⟩, fr, q⟩
    · intro Y _ _ eK pins σ H s xs J
      rw [← eK]
      exact ⟨fun z => let ⟨i, v, d, _⟩ := J.tuple z; ⟨i, v, d⟩, fun z => let ⟨i, v, d, _⟩ := J.tuple z; ⟨i, v, d⟩⟩
    · intro Y _ _ eK pins σ H s c xs ys J
      rw [← eK]
      exact J.tuple_inj
end K80

set_option maxHeartbeats 4000000
/-! the rules that name the written part, told by its name (within comprehensions) -/
namespace K80
open PySem PySem.Spec L2
open PyProof.Rows hiding St
section
variable {X : Cx} {K : PySem.W.Frag} {tg e : Expr} {te : TE} {f : Str} {pos : Pos}
theorem ix_listK (h : X.K = K) : IxR X (rIxL K) := h ▸ ix_list
theorem ix_tupK (h : X.K = K) : IxR X (rIxT K) := h ▸ ix_tup
theorem ix_seqK (h : X.K = K) : IxR X (rIx K) := h ▸ ix_seq
def rLenK (K : PySem.W.Frag) : List V → Hp → VK → Prop := fun xs H Q => ∃ x n, xs = [x] ∧ LenV K x H n ∧ Q (.int n) H
theorem call_lenK (h : X.K = K) : CallR X (.builtin "len") (rLenK K) := by subst h; exact call_len
def rTupK (K : PySem.W.Frag) : List V → Hp → VK → Prop := fun xs H Q => ∃ p ys, xs = [.ref p] ∧ ((SqL K H p ys ∧ ∀ l, H l = none → Q (.ref l) (upd H l (.tup ys))) ∨ (SqT K H p ys ∧ Q (.ref p) H))
theorem call_tupK (h : X.K = K) : CallR X (.type "tuple") (rTupK K) := by subst h; exact call_tuple_of
def rLstK (K : PySem.W.Frag) : List V → Hp → VK → Prop := fun xs H Q => ∃ p ys, xs = [.ref p] ∧ (SqL K H p ys ∨ SqT K H p ys) ∧ ∀ l, H l = none → Q (.ref l) (upd H l (.lst ys))
theorem call_lstK (h : X.K = K) : CallR X (.type "list") (rLstK K) := by subst h; exact call_list_of
theorem op_catK (h : X.K = K) : OpR X (binaryOp .Add) (rCatA K) := h ▸ op_catA
theorem op_inK (h : X.K = K) : OpR X (compareOp .In) (rIn K false) := h ▸ op_in_seq
theorem op_niK (h : X.K = K) : OpR X (compareOp .NotIn) (rIn K true) := h ▸ op_notIn_seq
theorem op_inDK (h : X.K = K) (hu : X.A.units + 65 < cLine) : OpR X (compareOp .In) (rInD K) := by subst h; exact op_inD hu
theorem op_niDK (h : X.K = K) (hu : X.A.units + 65 < cLine) : OpR X (compareOp .NotIn) (rNotInD K) := by subst h; exact op_notInD hu
theorem op_eqDK (h : X.K = K) (hu : X.A.units + 64 < cLine) : OpR X (compareOp .Eq) (rEqD K) := by subst h; exact op_eqD hu
theorem op_neDK (h : X.K = K) (hu : X.A.units + 64 < cLine) : OpR X (compareOp .NotEq) (rNeD K) := by subst h; exact op_neD hu
theorem pe_fldK (h : X.K = K) (he : PE X e te) (hb : attributeBase e f X.env (eval e X.env) = eval e X.env) : PE X (.Attribute e f pos) (tFld K te f) := by subst h; exact pe_fld he hb
theorem pi_listK (h : X.K = K) (he : PE X e te) : PI X tg e (iList K te) := by subst h; exact pi_list he
theorem pi_tupK (h : X.K = K) (he : PE X e te) : PI X tg e (iTup K te) := by subst h; exact pi_tup he
theorem call_isiK1 (h : X.K = K) : CallR X (.builtin "isinstance") (rIsi K) := by subst h; exact call_isi
theorem call_isiTK (h : X.K = K) : CallR X (.builtin "isinstance") (rIsiT K) := by subst h; exact call_isiT
theorem cr_allK (h : X.K = K) (hc : X.calm = true) : CallR X (.builtin "all") (rAll K) := by subst h; exact cr_all hc
theorem cr_anyK (h : X.K = K) (hc : X.calm = true) : CallR X (.builtin "any") (rAny K) := by subst h; exact cr_any hc
theorem cr_sumK (h : X.K = K) (hc : X.calm = true) : CallR X (.builtin "sum") (rSum K) := by subst h; exact cr_sum hc
theorem cr_minK (h : X.K = K) (hc : X.calm = true) : CallR X (.builtin "min") (rMin K) := by subst h; exact cr_min hc
theorem cr_sortedSK (h : X.K = K) : CallR X (.builtin "sorted") (rSortedS K) := by subst h; exact cr_sortedS
theorem pg_tupK {es : List Expr} {k : Nat} {t : TGs} {n : Nat} (h : X.K = K) (hc : X.calm = true) (hg : PGs X es t)
    (hn : (assignEach es X.env).length = n := by rfl) (hst : (assignEach es X.env).findIdx? (·.1) = none := by rfl) : PG X (.Tuple es k pos) (gTup K n t) := by subst h; exact pg_tup hc hg hn hst
theorem sl_listK (h : X.K = K) : SlR X (rSlL K) := h ▸ sl_list
theorem sl_tupK (h : X.K = K) : SlR X (rSlA K) := h ▸ sl_tupA
section
variable {name : Str} {apos cpos : Pos} {o a : Expr} {es : List Expr} {to : TE} {t : TA} {T id : String} {r : V → List V → Hp → VK → Prop}
theorem pe_bmK (h : X.K = K) (pa : PlainAttrs T) (slot : Slot T name id) (hty : typeOf (.builtin id) = pure (.type "method_descriptor")) (hm : MtR X id r) (ho : PE X o to) (ha : PA X (a :: es) t)
    (hbase : attributeBase o name X.env (eval o X.env) = eval o X.env := by rfl)
    (hfew : ((backTo cpos (starEach (a :: es) X.env)).all (fun x => !x.1) && (backToKw cpos (keywordEach [] X.env)).all (fun x => x.1.isSome)
      && decide ((a :: es).length + ([] : List Keyword).length + (if ([] : List Keyword).isEmpty then 0 else 1) < 30)) = true := by rfl)
    (hline : (apos.endLine == cpos.line) = true := by rfl) (hs : starEach (a :: es) X.env = (false, eval a X.env) :: starEach es X.env := by rfl) (hplain : (backTo cpos (starEach es X.env)).any (·.1) = false := by rfl) :
    PE X (.Call (.Attribute o name apos) (a :: es) [] cpos) (tBM K T r to t) := by subst h; exact pe_bm pa slot hty hm ho ha hbase hfew hline hs hplain
end
end
end K80

set_option maxHeartbeats 4000000
/-! hands as numbers, tables on pairs of them -/
namespace K80
open PySem PySem.Spec L2
open PyProof.Rows hiding St
def hdc : Nat → Nat
  | 0 => 97 | 1 => 98 | 2 => 99 | 3 => 100 | 4 => 109 | 5 => 122 | n + 6 => 1000 + n
def tlc : Nat → List Nat
  | 2 => [49] | 4 => [57] | 5 => [101, 100] | _ => []
/-- the name of the hand number i -/
def nm (i : Nat) : Str := ⟨(hdc i :: tlc i).toArray⟩
theorem hdc_lt {i j : Nat} (h : i < j) : hdc i < hdc j := by
  unfold hdc
  split <;> split <;> omega
theorem hdc_inj {i j : Nat} (h : hdc i = hdc j) : i = j := by
  rcases Nat.lt_trichotomy i j with c | c | c
  · have := hdc_lt c; omega
  · exact c
  · have := hdc_lt c; omega
theorem nm_inj {i j : Nat} (h : nm i = nm j) : i = j := by
  unfold nm at h
  have e : hdc i :: tlc i = hdc j :: tlc j := by
    have := congrArg (fun z : Str => z.cps.toList) h
    simpa using this
  exact hdc_inj (List.cons.inj e).1
theorem nm_eq {i j : Nat} : nm i = nm j ↔ i = j := ⟨nm_inj, fun e => e ▸ rfl⟩
theorem nm_lt {i j : Nat} : (nm i).cps.toList < (nm j).cps.toList ↔ i < j := by
  show hdc i :: tlc i < hdc j :: tlc j ↔ i < j
  rw [List.cons_lt_cons_iff]
  constructor
  · rintro (h | ⟨h, h'⟩)
    · rcases Nat.lt_trichotomy i j with c | c | c
      · exact c
      · subst c; omega
      · have := hdc_lt c; omega
    · have := hdc_inj h
      subst this
      exact (List.lt_irrefl _ h').elim
  · exact fun h => .inl (hdc_lt h)
abbrev hv (i : Nat) : V := .str (nm i)
theorem hv_inj {i j : Nat} (h : hv i = hv j) : i = j := nm_inj (by injection h)
theorem hv_dec (i j : Nat) : decide (hv i = hv j) = decide (i = j) := by
  by_cases h : i = j
  · subst h; simp
  · have : ¬ hv i = hv j := fun e => h (hv_inj e)
    simp [h, this]
abbrev hk1 (i : Nat) : Key := .inr (nm i)
abbrev pk (i j : Nat) : List Key := [.inr (nm i), .inr (nm j)]
theorem hk_eq {i j : Nat} : hk1 i = hk1 j ↔ i = j := ⟨fun e => nm_inj (by injection e), fun e => e ▸ rfl⟩
theorem pk_eq {i j k l : Nat} : pk i j = pk k l ↔ i = k ∧ j = l := by
  constructor
  · intro e
    injection e with e1 e2
    injection e2 with e2 _
    exact ⟨hk_eq.mp e1, hk_eq.mp e2⟩
  · rintro ⟨rfl, rfl⟩; rfl
/-- the tuple of the two hands stands at q -/
abbrev PrT (H : Hp) (q : Addr) (i j : Nat) : Prop := H q = some (.tup [hv i, hv j])
/-- an int, or None -/
def optI : Option Int → V
  | none => .non
  | some i => .int i
theorem inV_hv (i : Nat) (hs : List Nat) : inV (hv i) (hs.map hv) = decide (i ∈ hs) := by
  unfold inV
  induction hs with
  | nil => rfl
  | cons a r ih =>
    rw [List.map_cons, List.any_cons, ih]
    have : eqV (hv a) (hv i) = decide (i = a) := by
      show (nm a == nm i) = _
      by_cases h : i = a
      · subst h; simp
      · have : ¬ nm a = nm i := fun e => h (nm_inj e).symm
        simp [h, this]
    rw [this]
    by_cases h : i = a <;> by_cases h' : i ∈ r <;> simp [h, h']
theorem flat_hv (hs : List Nat) : (hs.map hv).all flatV = true := by
  simp [List.all_map, flatV]
/-! ### nodup lists within a list -/
theorem nodup_le {α : Type} [DecidableEq α] : ∀ {l m : List α}, l.Nodup → (∀ x ∈ l, x ∈ m) → l.length ≤ m.length
  | [], _, _, _ => Nat.zero_le _
  | a :: l, m, h, hs => by
    have h2 := List.nodup_cons.mp h
    have ha : a ∈ m := hs a List.mem_cons_self
    have : l.length ≤ (m.erase a).length := nodup_le h2.2 fun x hx => by
      have hne : x ≠ a := fun e => h2.1 (e ▸ hx)
      exact (List.mem_erase_of_ne hne).mpr (hs x (List.mem_cons_of_mem _ hx))
    have e := List.length_erase_of_mem ha
    have : 0 < m.length := List.length_pos_of_mem ha
    simp only [List.length_cons]
    omega
/-! ### tables -/
section
variable {κ : Type} [DecidableEq κ]
theorem keys_putK (kvs : List (κ × V)) (k : κ) (v : V) : (putK kvs k v).map (·.1) = if (kvs.any fun kv => decide (kv.1 = k)) = true then kvs.map (·.1) else kvs.map (·.1) ++ [k] := by
  unfold putK
  split
  · rw [List.map_map]
    apply List.map_congr_left
    intro p _
    show (if p.1 = k then (p.1, v) else p).1 = p.1
    split <;> rfl
  · rw [List.map_append]; rfl
theorem nodup_putK {kvs : List (κ × V)} (k : κ) (v : V) (h : (kvs.map (·.1)).Nodup) : ((putK kvs k v).map (·.1)).Nodup := by
  rw [keys_putK]
  split
  · exact h
  · rename_i c
    refine List.nodup_append.mpr ⟨h, by simp, ?_⟩
    intro a ha b hb e
    simp at hb
    subst hb
    subst e
    apply c
    rw [List.any_eq_true]
    obtain ⟨p, hp, e⟩ := List.mem_map.mp ha
    exact ⟨p, hp, by simp [e]⟩
theorem mem_putK {kvs : List (κ × V)} {k : κ} {v : V} {S : κ → Prop} (h : ∀ e ∈ kvs.map (·.1), S e) (hk : S k) : ∀ e ∈ (putK kvs k v).map (·.1), S e := by
  rw [keys_putK]
  split
  · exact h
  · intro e he
    rcases List.mem_append.mp he with z | z
    · exact h e z
    · simp at z; exact z ▸ hk
end
/-- the pairs of hands -/
def prs (hs : List Nat) : List (List Key) := hs.flatMap fun i => hs.map fun j => pk i j
theorem mem_prs {hs : List Nat} {i j : Nat} (hi : i ∈ hs) (hj : j ∈ hs) : pk i j ∈ prs hs := List.mem_flatMap.mpr ⟨i, hi, List.mem_map.mpr ⟨j, hj, rfl⟩⟩
theorem prs_len (hs : List Nat) : (prs hs).length = hs.length * hs.length := by
  unfold prs
  rw [List.length_flatMap]
  simp [List.map_const']
/-- a table on pairs of the hands hs stands at a -/
def Tb (hs : List Nat) (f : Nat → Nat → Option V) (kvs : List (List Key × V)) : Prop :=
  (kvs.map (·.1)).Nodup ∧ (∀ e ∈ kvs.map (·.1), e ∈ prs hs) ∧ ∀ i j, valV kvs (pk i j) = f i j
theorem tb_nil {hs : List Nat} : Tb hs (fun _ _ => none) [] := ⟨.nil, fun e h => by simp at h, fun i j => valV_nil⟩
theorem tb_len {hs : List Nat} {f : Nat → Nat → Option V} {kvs : List (List Key × V)} (t : Tb hs f kvs) : kvs.length ≤ hs.length * hs.length := by
  have := nodup_le t.1 t.2.1
  rw [prs_len, List.length_map] at this
  exact this
theorem tb_put {hs : List Nat} {f : Nat → Nat → Option V} {kvs : List (List Key × V)} (t : Tb hs f kvs) {i j : Nat} (v : V) (hi : i ∈ hs) (hj : j ∈ hs) :
    Tb hs (fun x y => if x = i ∧ y = j then some v else f x y) (putK kvs (pk i j) v) := by
  refine ⟨nodup_putK _ _ t.1, mem_putK t.2.1 (mem_prs hi hj), fun x y => ?_⟩
  rw [valV_put, t.2.2]
  by_cases c : x = i ∧ y = j
  · obtain ⟨rfl, rfl⟩ := c; simp
  · have : ¬ pk x y = pk i j := fun e => c (pk_eq.mp e)
    simp only [if_neg c, if_neg this]
theorem tb_get {hs : List Nat} {f : Nat → Nat → Option V} {kvs : List (List Key × V)} {H : Hp} {a b : Addr} {i j : Nat} (t : Tb hs f kvs) (e : H a = some (.dT kvs)) (eb : PrT H b i j) : DGet H a (.ref b) (f i j) :=
  t.2.2 i j ▸ DGet.t (k := pk i j) e eb
theorem tb_getR {hs : List Nat} {f : Nat → Nat → Option V} {kvs : List (List Key × V)} {H : Hp} {a b : Addr} {i j : Nat} (t : Tb hs f kvs) (e : Rd H a (.dT kvs)) (eb : PrT H b i j) : DGet H a (.ref b) (f i j) :=
  .inr ⟨kvs, pk i j, b, e, rfl, eb, (t.2.2 i j).symm⟩
/-! ### dicts keyed by all hands, in their order -/
abbrev dh (hs : List Nat) (v : Nat → V) : List (Key × V) := hs.map fun h => (hk1 h, v h)
theorem val_dh (hs : List Nat) (v : Nat → V) (k : Nat) : valV (dh hs v) (hk1 k) = if k ∈ hs then some (v k) else none := by
  induction hs with
  | nil => rfl
  | cons a r ih =>
    show valV ((hk1 a, v a) :: dh r v) _ = _
    by_cases c : a = k
    · subst c
      rw [valV_pos rfl]
      simp
    · rw [valV_neg (fun e => c (hk_eq.mp e)), ih]
      have : ¬ k = a := fun e => c e.symm
      simp [this]
theorem put_dh {hs : List Nat} {v : Nat → V} {k : Nat} (y : V) (hk : k ∈ hs) : putK (dh hs v) (hk1 k) y = dh hs fun x => if x = k then y else v x := by
  unfold putK
  rw [valV_any, val_dh, if_pos hk]
  simp only [Option.isSome_some, if_true, List.map_map]
  apply List.map_congr_left
  intro x _
  show (if hk1 x = hk1 k then (hk1 x, y) else (hk1 x, v x)) = (hk1 x, if x = k then y else v x)
  by_cases c : x = k
  · subst c; simp
  · have : ¬ hk1 x = hk1 k := fun e => c (hk_eq.mp e)
    simp only [if_neg c, if_neg this]
theorem put_dh_new {l : List Nat} {v : Nat → V} {k : Nat} (y : V) (hk : k ∉ l) : putK (dh l v) (hk1 k) y = dh (l ++ [k]) fun x => if x = k then y else v x := by
  rw [putK_new _ (by rw [val_dh, if_neg hk])]
  show dh l v ++ [(hk1 k, y)] = (l ++ [k]).map _
  rw [List.map_append]
  congr 1
  · apply List.map_congr_left
    intro x hx
    have : ¬ x = k := fun e => hk (e ▸ hx)
    simp only [if_neg this]
  · simp
theorem get_dh {H : Hp} {a : Addr} {hs : List Nat} {v : Nat → V} {k : Nat} (e : Rd H a (.dK (dh hs v))) (hk : k ∈ hs) : DGet H a (hv k) (some (v k)) :=
  .inl ⟨_, hk1 k, e, rfl, by rw [val_dh, if_pos hk]⟩
theorem put_dk {H : Hp} {a : Addr} {hs : List Nat} {v : Nat → V} {k : Nat} (y : V) (e : H a = some (.dK (dh hs v))) (hk : k ∈ hs) (hz : hs.length ≤ 1000) :
    DPut H a (hv k) y (upd H a (.dK (dh hs fun x => if x = k then y else v x))) :=
  .inl ⟨_, hk1 k, e, rfl, by rw [List.length_map]; exact small1000 (by omega), by rw [put_dh y hk]⟩
end K80

set_option maxHeartbeats 4000000
/-! the names' module -/
namespace K80
open PySem PySem.Spec L2
open PyProof.Rows hiding St
abbrev s_is_list : Stmt := (topS 13)
theorem sc_is_list : FnScope ["thing"] ["thing"] (defScope s_is_list) := ⟨rfl, rfl, rfl, by decide +kernel, rfl, by decide +kernel, by decide +kernel⟩
abbrev s_is_integer : Stmt := (topS 14)
theorem sc_is_integer : FnScope ["thing"] ["thing"] (defScope s_is_integer) := ⟨rfl, rfl, rfl, by decide +kernel, rfl, by decide +kernel, by decide +kernel⟩
abbrev s_is_name : Stmt := (topS 15)
theorem sc_is_name : FnScope ["thing", "sign"] ["thing"] (defScope s_is_name) := ⟨rfl, rfl, rfl, by decide +kernel, rfl, by decide +kernel, by decide +kernel⟩
abbrev s_checked_hands : Stmt := (topS 16)
theorem sc_checked_hands : FnScope ["hands", "found", "index", "hand"] ["hands"] (defScope s_checked_hands) := ⟨rfl, rfl, rfl, by decide +kernel, rfl, by decide +kernel, by decide +kernel⟩
abbrev s_is_hand_of : Stmt := (topS 17)
theorem sc_is_hand_of : FnScope ["thing", "hands"] ["thing", "hands"] (defScope s_is_hand_of) := ⟨rfl, rfl, rfl, by decide +kernel, rfl, by decide +kernel, by decide +kernel⟩
section
variable {P : Program} {w : World} {K : PySem.W.Frag} {mg : Str → Option Value} {base : Heap}
def tys : List String := ["list", "tuple", "dict", "int", "bool", "str", "NoneType"]
def kitb (t c : String) : Bool := t == c || (t == "bool" && c == "int")
theorem kit_tab : ∀ t ∈ tys, ∀ c ∈ tys, c ≠ "NoneType" → kitB t c = some (kitb t c) := by decide +kernel
theorem kit1 {t c : String} (ht : t ∈ tys) (hc : c ∈ tys) (hn : c ≠ "NoneType" := by decide) : PySem.W.kitOne K (.type t) (.type c) = some (kitb t c) := kit_ty (kit_tab t ht c hc hn)
theorem kitN {t : String} (ht : t ∈ tys) : ∀ {cs : List String}, (∀ c ∈ cs, c ∈ tys ∧ c ≠ "NoneType") → PySem.W.kitAny K (.type t) (cs.map Value.type) = some (cs.any (kitb t))
  | [], _ => kitAny_nil
  | c :: cs, h => by
    show PySem.W.kitAny K (.type t) (.type c :: cs.map Value.type) = _
    have h1 := kit1 (K := K) ht (h c List.mem_cons_self).1 (h c List.mem_cons_self).2
    have h2 := kitN ht (cs := cs) fun x hx => h x (List.mem_cons_of_mem _ hx)
    refine kitAny_cons h1 (fun e => ?_) fun e => ?_
    · rw [List.any_cons, e, Bool.false_or]; exact h2
    · rw [List.any_cons, e, Bool.true_or]
/-- isinstance(x, (c, d, ..)), the tuple just laid -/
theorem isiN {X : V} {H : Hp} {t : String} {Q : VK} {q : Addr} (ty : TyX K H X (.type t)) (ht : t ∈ tys) (cs : List String) (hc : ∀ c ∈ cs, c ∈ tys ∧ c ≠ "NoneType") (hq : H q = some (.tup (cs.map V.ty))) (k : Q (.bl (cs.any (kitb t))) H) : rIsiT K [X, .ref q] H Q := by
  refine ⟨X, q, cs.map V.ty, _, cs.map Value.type, _, rfl, hq, ?_, ty, kitN ht hc, k⟩
  clear hc hq k
  induction cs with
  | nil => exact .nil
  | cons c r ih => exact .cons (.ty c) ih
theorem isi1 {X : V} {H : Hp} {t : String} {Q : VK} (c : String) (ty : TyX K H X (.type t)) (ht : t ∈ tys) (hc : c ∈ tys) (hn : c ≠ "NoneType") (k : Q (.bl (kitb t c)) H) : rIsi K [X, .ty c] H Q :=
  ⟨X, .ty c, _, _, _, rfl, .ty c, ty, kit1 ht hc hn, k⟩
theorem tyOf_same {H H' : Hp} {x : V} {t : Value} (s : Same H H') (h : TyOf K H x t) : TyOf K H' x t := by
  cases h with
  | non => exact .non
  | bl b => exact .bl b
  | int i => exact .int i
  | str x => exact .str x
  | flt x => exact .flt x
  | lst e => exact .lst (s _ _ e)
  | frz e => exact .frz (s _ _ e)
  | tup e => exact .tup (s _ _ e)
  | dK e => exact .dK (s _ _ e)
  | dT e => exact .dT (s _ _ e)
  | ins e a b c d f => exact .ins (s _ _ e) a b c d f
theorem tyX_same {H H' : Hp} {x : V} {t : Value} (s : Same H H') (h : TyX K H x t) : TyX K H' x t := by
  cases h with
  | base h => exact .base (tyOf_same s h)
  | byt b => exact .byt b
  | set e => exact .set (s _ _ e)
  | kList e c => exact .kList e c
  | kTuple e c => exact .kTuple e c
  | kDict e c => exact .kDict e c
  | fTuple e => exact .fTuple (s _ _ e)
  | fDict e => exact .fDict (s _ _ e)
/-- a value of the built-in type t -/
abbrev Tyb (K : PySem.W.Frag) (H : Hp) (x : V) (t : String) : Prop := TyX K H x (.type t) ∧ t ∈ tys
theorem tyb_lst {H : Hp} {a : Addr} {xs : List V} (e : H a = some (.lst xs)) : Tyb K H (.ref a) "list" := ⟨.base (.lst e), by decide⟩
theorem tyb_tup {H : Hp} {a : Addr} {xs : List V} (e : H a = some (.tup xs)) : Tyb K H (.ref a) "tuple" := ⟨.base (.tup e), by decide⟩
theorem tyb_int {H : Hp} {i : Int} : Tyb K H (.int i) "int" := ⟨.base (.int i), by decide⟩
theorem tyb_str {H : Hp} {x : Str} : Tyb K H (.str x) "str" := ⟨.base (.str x), by decide⟩
theorem tyb_bl {H : Hp} {b : Bool} : Tyb K H (.bl b) "bool" := ⟨.base (.bl b), by decide⟩
theorem tyb_non {H : Hp} : Tyb K H .non "NoneType" := ⟨.base .non, by decide⟩
theorem tyb_dK {H : Hp} {a : Addr} {kvs} (e : H a = some (.dK kvs)) : Tyb K H (.ref a) "dict" := ⟨.base (.dK e), by decide⟩
theorem tyb_dT {H : Hp} {a : Addr} {kvs} (e : H a = some (.dT kvs)) : Tyb K H (.ref a) "dict" := ⟨.base (.dT e), by decide⟩
def spIsList (K : PySem.W.Frag) : Sp := fun vs H Q _ => ∃ x t, vs = [x] ∧ Tyb K H x t ∧ ∀ H', Same H H' → Q (.bl (t == "list" || t == "tuple")) H'
theorem ok_is_list (T : Txt K mg) : CallOk P w K mg base CX0 1 "is_list" ["thing"] [] (spIsList K) := by
  refine def_ok (st := s_is_list) T 2 0 rfl rfl sc_is_list (fun _ _ _ _ _ _ us hl => match us, hl with | [_], _ => rfl) (fun vs H Q E h => ?_) (fun cdv f A outer s H vs Q E hr h => ?_)
  · obtain ⟨x, t, rfl, _⟩ := h
    rfl
  · obtain ⟨x, t, rfl, ⟨ty, ht⟩, q⟩ := h
    refine ⟨_, PSs.nox (pss_one (ps_ret (pe_callB (id := "isinstance") (call_isiTK (K := K) rfl) (by rfl) T.f_isinstance (by decide +kernel) (pa_cons (pv 0) (pa_cons (pe_tup (pa_cons (pe_bltn (v := .ty "list") (by rfl) T.f_list (by decide +kernel) rfl) (pa_cons (pe_bltn (v := .ty "tuple") (by rfl) T.f_tuple (by decide +kernel) rfl) pa_nil))) pa_nil))))), ?_⟩
    refine ⟨_, rfl, ⟨by show 2 ≤ sizeLine; decide, fun p np => ?_⟩⟩
    refine isiN (tyX_same (same_new np) ty) ht ["list", "tuple"] (by decide) upd_same ?_
    have := q _ (same_new (o := .tup [.ty "list", .ty "tuple"]) np)
    have e : (["list", "tuple"].any (kitb t)) = (t == "list" || t == "tuple") := by
      have : ∀ t ∈ tys, (["list", "tuple"].any (kitb t)) = (t == "list" || t == "tuple") := by decide +kernel
      exact this t ht
    rw [e]
    exact this
def spIsInteger (K : PySem.W.Frag) : Sp := fun vs H Q _ => ∃ x t, vs = [x] ∧ Tyb K H x t ∧ Q (.bl (t == "int")) H
theorem ok_is_integer (T : Txt K mg) : CallOk P w K mg base CX0 1 "is_integer" ["thing"] [] (spIsInteger K) := by
  refine def_ok (st := s_is_integer) T 3 1 rfl rfl sc_is_integer (fun _ _ _ _ _ _ us hl => match us, hl with | [_], _ => rfl) (fun vs H Q E h => ?_) (fun cdv f A outer s H vs Q E hr h => ?_)
  · obtain ⟨x, t, rfl, _⟩ := h
    rfl
  · obtain ⟨x, t, rfl, ⟨ty, ht⟩, q⟩ := h
    refine ⟨_, PSs.nox (pss_one (ps_ret (pe_and (pe_callB (id := "isinstance") (call_isiK1 (K := K) rfl) (by rfl) T.f_isinstance (by decide +kernel) (pa_cons (pv 0) (pa_cons (pe_bltn (v := .ty "int") (by rfl) T.f_int (by decide +kernel) rfl) pa_nil))) (pe_one (pe_not (pe_callB (id := "isinstance") (call_isiK1 (K := K) rfl) (by rfl) T.f_isinstance (by decide +kernel) (pa_cons (pv 0) (pa_cons (pe_bltn (v := .ty "bool") (by rfl) T.f_bool (by decide +kernel) rfl) pa_nil)))))))), ?_⟩
    refine ⟨_, rfl, _, _, _, _, _, rfl, .ty "int", ty, kit1 ht (by decide), _, rfl, ?_⟩
    have hh : ∀ t ∈ tys, (kitb t "int" = true → (!kitb t "bool") = (t == "int")) ∧ (kitb t "int" = false → (t == "int") = false) := by decide +kernel
    split
    · rename_i c
      refine ⟨_, rfl, _, _, _, _, _, rfl, .ty "bool", ty, kit1 ht (by decide), _, rfl, ?_⟩
      rw [(hh t ht).1 c]
      exact q
    · rename_i c
      have := (hh t ht).2 (by simpa using c)
      rw [this] at q
      exact q
/-- over a text -/
theorem lc_str {x : Str} {g : TG} {tt : TT} {te : TE} {vs : List Nat} {σ : L2.St} {H1 : Hp} {D : Addr} {Qd : Hp → Prop} (Pv : Nat → Hp → Prop) (h0 : Pv 0 (upd H1 D (.lst [])))
    (hs : ∀ i c H, x.cps[i]? = some c → Pv i H → g (.str ⟨#[c]⟩) (wipe σ vs) H fun σ2 H2 => wipe σ2 vs = wipe σ vs ∧ tt σ2 H2 fun b H3 =>
      if b = true then te σ2 H3 fun y H4 => ∃ acc, H4 D = some (.lst acc) ∧ acc.length < sizeLine ∧ Pv (i + 1) (upd H4 D (.lst (acc ++ [y]))) else Pv (i + 1) H3) (hd : ∀ H, Pv x.cps.size H → Qd H) :
    ∃ W : Nat → Nat → Hp → Prop, (∃ m, W 0 m (upd H1 D (.lst []))) ∧ ∀ i m H, W i m H →
      ((Its x).stop i H ∧ Qd H) ∨ ((Its x).go i H ∧ ∃ Nx : Hp → Prop, (∀ H', Nx H' → ∃ m', m' < m ∧ W (i + 1) m' H') ∧ ∀ v H', (Its x).yld i H v H' → g v (wipe σ vs) H' fun σ2 H2 => wipe σ2 vs = wipe σ vs ∧ tt σ2 H2 fun b H3 =>
        if b = true then te σ2 H3 fun y H4 => ∃ acc, H4 D = some (.lst acc) ∧ acc.length < sizeLine ∧ Nx (upd H4 D (.lst (acc ++ [y]))) else Nx H3) := by
  refine ⟨fun i m H => i + m = x.cps.size ∧ Pv i H, ⟨x.cps.size, by omega, h0⟩, fun i m H hW => ?_⟩
  obtain ⟨e, hP⟩ := hW
  by_cases hi : i < x.cps.size
  · refine .inr ⟨hi, Pv (i + 1), fun H' hn => ⟨m - 1, by omega, by omega, hn⟩, fun v H' hy => ?_⟩
    obtain ⟨rfl, c, hc, rfl⟩ := hy
    exact hs i c _ hc hP
  · have : i = x.cps.size := by omega
    subst this
    exact .inl ⟨Nat.le_refl _, hd H hP⟩
def spIsName : Sp := fun vs H Q _ => ∃ i, vs = [hv i] ∧ i < 6 ∧ ∀ H', Same H H' → Q (.bl true) H'
theorem nm_len : ∀ i, i < 6 → 1 ≤ (nm i).length ∧ (nm i).length ≤ 8 ∧ (nm i).length = (nm i).cps.size := by decide +kernel
theorem nm_first : ∀ i, i < 6 → hdc i ∈ ("abcdefghijklmnopqrstuvwxyz" : Str).cps.toList := by decide +kernel
theorem nm_chars : ∀ i, i < 6 → ∀ c ∈ (nm i).cps.toList, (decide (c ∈ ("abcdefghijklmnopqrstuvwxyz" : Str).cps.toList) || decide (c ∈ ("0123456789" : Str).cps.toList)) = true := by decide +kernel
theorem ok_is_name (T : Txt K mg) : CallOk P w K mg base CX0 1 "is_name" ["thing"] [] spIsName := by
  refine def_ok (st := s_is_name) T 4 2 rfl rfl sc_is_name (fun _ _ _ _ _ _ us hl => match us, hl with | [_], _ => rfl) (fun vs H Q E h => ?_) (fun cdv f A outer s H vs Q E hr h => ?_)
  · obtain ⟨i, rfl, _⟩ := h
    rfl
  · obtain ⟨i, rfl, hi, q⟩ := h
    refine ⟨_, PSs.nox (pss_cons (ps_if (PW.pt (pw_or (pt_not (pt_val (pe_callB (id := "isinstance") (call_isiK1 (K := K) rfl) (by rfl) T.f_isinstance (by decide +kernel) (pa_cons (pv 0) (pa_cons (pe_bltn (v := .ty "str") (by rfl) T.f_str (by decide +kernel) rfl) pa_nil))))) (pw_or (pt_not (pt_chain op_le op_le (pe_int) (pe_callB (id := "len") (call_lenK (K := K) rfl) (by rfl) T.f_len (by decide +kernel) (pa_cons (pv 0) pa_nil)) (pe_int))) (pw_or1 (pt_cmpR op_notInS (pe_ix ix_str (pv 0) (pe_int) (fun _ _ => rfl)) (pe_glob (v := .str "abcdefghijklmnopqrstuvwxyz") (by rfl) T.smallx.choose_spec ⟨_, rfl⟩) (by rfl)))))) (pss_one (ps_ret (pe_bl))) pss_nil)
      (pss_one (ps_ret (pe_callB (id := "all") (cr_allK (K := K) rfl rfl) (by rfl) T.f_all (by decide +kernel) (pa_cons (pe_lc (own := [("sign", 1)]) (by rfl) sc_is_name.nd (pi_str (pv 0)) (blkOk_by (own := [("sign", 1)]) (N := ["thing", "sign"]) (sc := defScope (topS 15)) (by decide +kernel)) (fun _ _ _ _ _ => (pg_name (i := 1) sc_is_name.nd rfl (.inl rfl))) (fun _ _ _ _ _ => pts_nil) (fun _ _ _ _ _ => (pe_or (pe_cmpR op_inS (pv 1) (pe_glob (v := .str "abcdefghijklmnopqrstuvwxyz") (by rfl) T.smallx.choose_spec ⟨_, rfl⟩) (by rfl)) (pe_one (pe_cmpR op_inS (pv 1) (pe_glob (v := .str "0123456789") (by rfl) T.figuresx.choose_spec ⟨_, rfl⟩) (by rfl)))))) pa_nil))))), ?_⟩
    obtain ⟨l1, l8, ls⟩ := nm_len i hi
    have lz : (nm i).length ≤ sizeLine := Nat.le_trans l8 (by decide)
    have l0 : atI (nm i).cps.toList (0 : Int) = some (hdc i) := atI_nat (j := 0) rfl
    refine ⟨_, rfl, _, _, _, _, _, rfl, .ty "str", (tyb_str).1, kit1 (by decide) (by decide), ?_⟩
    refine ⟨_, rfl, ?_⟩
    refine ⟨_, rfl, _, _, rfl, ⟨lz, rfl⟩, _, _, rfl, rfl, _, rfl, ?_⟩
    have e1 : decide ((1 : Int) ≤ ((nm i).length : Nat)) = true := by simp; omega
    rw [e1]
    refine ⟨_, _, rfl, rfl, _, rfl, ?_⟩
    have e2 : decide ((((nm i).length : Nat) : Int) ≤ 8) = true := by simp; omega
    rw [e2]
    refine ⟨_, rfl, _, 0, hdc i, rfl, rfl, lz, l0, _, _, rfl, rfl, _, rfl, ?_⟩
    rw [decide_eq_true (nm_first i hi)]
    refine ⟨_, rfl, _, rfl, fun D nD => ?_⟩
    refine lc_str (fun j H' => j ≤ (nm i).cps.size ∧ Same H H' ∧ H' D = some (.lst ((List.replicate j true).map V.bl))) ⟨Nat.zero_le _, same_new nD, upd_same⟩ ?_ ?_
    · intro j c H' hc ⟨hj, sm, hD⟩
      refine ⟨rfl, ?_⟩
      have hm : c ∈ (nm i).cps.toList := by
        have : (nm i).cps.toList[j]? = some c := by rw [Array.getElem?_toList]; exact hc
        exact mem_of j this
      have hx := nm_chars i hi c hm
      have fin : ∃ acc, H' D = some (.lst acc) ∧ acc.length < sizeLine ∧ (j + 1 ≤ (nm i).cps.size ∧ Same H (upd H' D (.lst (acc ++ [V.bl true]))) ∧ (upd H' D (.lst (acc ++ [V.bl true]))) D = some (.lst ((List.replicate (j + 1) true).map V.bl))) := by
        have hj' : j < (nm i).cps.size := by
          rw [Array.getElem?_eq_some_iff] at hc
          exact hc.1
        refine ⟨_, hD, small1000 (by simp; omega), hj', same_mut sm nD, ?_⟩
        rw [upd_same, List.replicate_succ', List.map_append]
        rfl
      refine ⟨_, rfl, _, _, rfl, rfl, _, rfl, ?_⟩
      split
      · exact fin
      · rename_i c1
        refine ⟨_, rfl, _, _, rfl, rfl, ?_⟩
        have : decide (c ∈ ("0123456789" : Str).cps.toList) = true := by
          rcases Bool.or_eq_true_iff.mp hx with z | z
          · exact absurd z c1
          · exact z
        rw [this]
        exact fin
    · intro H' ⟨_, sm, hD⟩
      refine ⟨D, List.replicate _ true, rfl, .of hD, ?_⟩
      have e : ∀ n, (List.replicate n true).all id = true := by
        intro n
        simp [List.all_replicate]
      rw [e]
      exact q _ sm
def spIsHandOf : Sp := fun vs H Q _ => ∃ (i : Nat) (a : Addr) (hs : List Nat), vs = [hv i, .ref a] ∧ i < 6 ∧ H a = some (.lst (hs.map hv)) ∧ ∀ H', Same H H' → Q (.bl (decide (i ∈ hs))) H'
theorem ok_is_hand_of (T : Txt K mg) : CallOk P w K mg base CX0 2 "is_hand_of" ["thing", "hands"] [] spIsHandOf := by
  have C_is_name : CallOk P w K mg base CX0 1 "is_name" ["thing"] [] spIsName := ok_is_name T
  refine def_ok (st := s_is_hand_of) T 6 4 rfl rfl sc_is_hand_of (fun _ _ _ _ _ _ us hl => match us, hl with | [_, _], _ => rfl) (fun vs H Q E h => ?_) (fun cdv f A outer s H vs Q E hr h => ?_)
  · obtain ⟨i, a, hs, rfl, _⟩ := h
    rfl
  · obtain ⟨i, a, hs, rfl, hi, ha, q⟩ := h
    refine ⟨_, PSs.nox (pss_one (ps_ret (pe_and (pe_callT C_is_name (hr.mono (by decide)) (by rfl) pass0 (pa_cons (pv 0) pa_nil)) (pe_one (pe_cmpR (op_inK (K := K) rfl) (pv 0) (pv 1) (by rfl)))))), ?_⟩
    refine ⟨_, rfl, i, rfl, hi, fun H' sm => ⟨_, rfl, ?_⟩⟩
    refine ⟨_, rfl, _, rfl, a, hs.map hv, rfl, .inl (.of (sm _ _ ha)), rfl, flat_hv hs, ?_⟩
    simp only [Bool.false_eq_true, if_false, inV_hv]
    exact q _ sm
/-- a list of hands' names, in any order -/
theorem perm_nm {xs : List Str} : ∀ {ys : List Str}, ys.Perm xs → ∀ hs : List Nat, xs = hs.map nm → ∃ l : List Nat, ys = l.map nm ∧ l.Perm hs := by
  intro ys p
  induction p with
  | nil => intro hs e; exact ⟨[], rfl, by have := List.map_eq_nil_iff.mp e.symm; rw [this]⟩
  | cons x p ih =>
    intro hs e
    cases hs with
    | nil => cases e
    | cons h r =>
      injection e with e1 e2
      obtain ⟨l, e, p⟩ := ih r e2
      exact ⟨h :: l, by rw [e, e1]; rfl, p.cons h⟩
  | swap x y l =>
    intro hs e
    match hs, e with
    | a :: b :: r, e =>
      injection e with e1 e2
      injection e2 with e2 e3
      exact ⟨b :: a :: r, by rw [e1, e2, e3]; rfl, .swap a b r⟩
  | trans p1 p2 ih1 ih2 =>
    intro hs e
    obtain ⟨l, e1, p1⟩ := ih2 hs e
    obtain ⟨l', e2, p2⟩ := ih1 l e1
    exact ⟨l', e2, p2.trans p1⟩
theorem rising_nm : ∀ (l : List Nat) (p : Nat), risingS (nm p) (l.map nm) = true → (p :: l).Pairwise (· ≤ ·)
  | [], p, _ => .cons (fun _ h => by cases h) .nil
  | a :: r, p, h => by
    have h1 := Bool.and_eq_true_iff.mp h
    have h2 : ¬ (a < p) := fun c => by
      have h3 := h1.1
      rw [ltCps_eq] at h3
      rw [decide_eq_true (nm_lt.mpr c)] at h3
      cases h3
    have ih := rising_nm r a h1.2
    refine .cons (fun x hx => ?_) ih
    rcases List.mem_cons.mp hx with e | e
    · omega
    · have := (List.pairwise_cons.mp ih).1 x e
      omega
theorem sorted_nm {l : List Nat} (h : sortedS (l.map nm) = true) (hd : l.Nodup) : l.Pairwise (· < ·) := by
  have : l.Pairwise (· ≤ ·) := by
    cases l with
    | nil => exact .nil
    | cons a r => exact rising_nm r a h
  refine List.Pairwise.imp₂ (fun a b h1 h2 => ?_) this hd
  omega
theorem map_hv (hs : List Nat) : hs.map hv = (hs.map nm).map V.str := by rw [List.map_map]; rfl
theorem nodup6 {hs : List Nat} (hd : hs.Nodup) (h6 : ∀ h ∈ hs, h < 6) : hs.length ≤ 6 := by
  have := nodup_le (m := List.range 6) hd fun x hx => List.mem_range.mpr (h6 x hx)
  simpa using this
def spCheckedHands : Sp := fun vs H Q _ => ∃ (a : Addr) (hs : List Nat), vs = [.ref a] ∧ H a = some (.lst (hs.map hv)) ∧ hs.Nodup ∧ (∀ h ∈ hs, h < 6) ∧ 2 ≤ hs.length ∧
  ∀ (p : Addr) (H' : Hp) (ys : List Nat), Same H H' → H p = none → H' p = some (.lst (ys.map hv)) → ys.Perm hs → ys.Pairwise (· < ·) → Q (.ref p) H'
theorem ok_checked_hands (T : Txt K mg) : CallOk P w K mg base CX0 2 "checked_hands" ["hands"] [] spCheckedHands := by
  have C_is_name : CallOk P w K mg base CX0 1 "is_name" ["thing"] [] spIsName := ok_is_name T
  have C_is_list : CallOk P w K mg base CX0 1 "is_list" ["thing"] [] (spIsList K) := ok_is_list T
  refine def_ok (st := s_checked_hands) T 5 3 rfl rfl sc_checked_hands (fun _ _ _ _ _ _ us hl => match us, hl with | [_], _ => rfl) (fun vs H Q E h => ?_) (fun cdv f A outer s H vs Q E hr h => ?_)
  · obtain ⟨a, hs, rfl, _⟩ := h
    rfl
  · obtain ⟨a, hs, rfl, ha, hd, h6, h2, q⟩ := h
    refine ⟨_, PSs.nox (pss_cons (ps_if (pt_not (pt_val (pe_callT C_is_list (hr.mono (by decide)) (by rfl) pass0 (pa_cons (pv 0) pa_nil)))) (pss_one (ps_never)) pss_nil)
      (pss_cons (ps_set (i := 1) sc_checked_hands.nd rfl (.inl rfl) (pe_lst pa_nil))
      (pss_cons (ps_for PassesOwn.never rfl (pi_enum (by rfl) T.f_enumerate (pa_cons (pv 0) pa_nil)) (pg_tupK (K := K) rfl rfl (pgs_cons (pg_name (i := 2) sc_checked_hands.nd rfl (.inl rfl)) (pgs_cons (pg_name (i := 3) sc_checked_hands.nd rfl (.inl rfl)) pgs_nil)))
      (pss_cons (ps_if (PW.pt (pw_or (pt_not (pt_val (pe_callT C_is_name (hr.mono (by decide)) (by rfl) pass0 (pa_cons (pv 3) pa_nil)))) (pw_or1 (pt_cmpR (op_inK (K := K) rfl) (pv 3) (pv 1) (by rfl))))) (pss_one (ps_never)) pss_nil)
      (pss_one (ps_expr (pe_bmK (K := K) rfl PySem.F.plainAttrs_list PySem.F.slot_list_append PySem.F.type_list_append mt_append (pv 1) (pa_cons (pv 3) pa_nil))))))
      (pss_cons (ps_if (pt_cmpR op_lt (pe_callB (id := "len") (call_lenK (K := K) rfl) (by rfl) T.f_len (by decide +kernel) (pa_cons (pv 1) pa_nil)) (pe_int) (nomark _)) (pss_one (ps_never)) pss_nil)
      (pss_one (ps_ret (pe_callB (id := "sorted") (cr_sortedSK (K := K) rfl) (by rfl) T.f_sorted (by decide +kernel) (pa_cons (pv 1) pa_nil)))))))), ?_⟩
    have lz := nodup6 hd h6
    refine ⟨_, rfl, _, "list", rfl, tyb_lst ha, fun H1 s1 => ⟨_, rfl, ?_⟩⟩
    refine ⟨by decide, fun F nF => ?_⟩
    refine ⟨_, rfl, a, hs.map hv, rfl, .of (same_new nF _ _ (s1 _ _ ha)), ?_⟩
    refine for_enum (xs := hs.map hv) (fun i σ H' => ∃ u v, σ = [some (.ref a), some (.ref F), u, v] ∧ Same H H' ∧ H' F = some (.lst ((hs.take i).map hv))) ?_ ?_ ?_ ?_
    · exact ⟨_, _, rfl, s1.trans (same_new nF), upd_same⟩
    · intro i σ H' _ ⟨u, v, _, sm, _⟩
      exact .of (sm _ _ ha)
    · rintro i x Tt σ H' hx ⟨u, v, rfl, sm, hF⟩ nT
      rw [List.getElem?_map] at hx
      obtain ⟨h, hh, rfl⟩ := Option.map_eq_some_iff.mp hx
      have hm : h ∈ hs := mem_of i hh
      have sT := same_new (o := .tup [.int (i : Nat), hv h]) nT
      refine ⟨Tt, _, rfl, .of upd_same, rfl, _, _, rfl, _, _, rfl, rfl, ?_⟩
      refine ⟨_, rfl, h, rfl, h6 h hm, fun H2 s2 => ⟨_, rfl, ?_⟩⟩
      have hF2 : H2 F = some (.lst ((hs.take i).map hv)) := s2 _ _ (sT _ _ hF)
      refine ⟨_, rfl, _, rfl, F, _, rfl, .inl (.of hF2), rfl, flat_hv _, _, rfl, ?_⟩
      have e : inV (hv h) ((hs.take i).map hv) = false := by
        rw [inV_hv]
        refine decide_eq_false fun c => ?_
        obtain ⟨j, hj⟩ := List.mem_iff_getElem?.mp c
        rw [List.getElem?_take] at hj
        split at hj
        · rename_i ji
          have := (List.getElem?_inj (List.getElem?_eq_some_iff.mp hh).1 hd).mp (hh.trans hj.symm)
          omega
        · cases hj
      rw [if_neg (by simp), e]
      refine ⟨_, rfl, .inl ⟨rfl, _, .of hF2⟩, _, rfl, F, _, _, rfl, rfl, hF2, ?_, ?_⟩
      · exact small1000 (by simp; omega)
      · refine ⟨_, _, rfl, same_mut (sm.trans (sT.trans s2)) (s1.free nF), ?_⟩
        rw [upd_same, take_succ' hh, List.map_append]
        rfl
    · intro σ H' ⟨u, v, hσ, sm, hF⟩
      subst hσ
      rw [List.length_map, List.take_length] at hF
      refine ⟨_, rfl, _, _, rfl, .inl ⟨_, .of hF, rfl⟩, _, _, rfl, rfl, _, rfl, ?_⟩
      have e : decide (((hs.map hv).length : Int) < 2) = false := by simp; omega
      rw [e]
      rw [map_hv] at hF
      refine ⟨_, rfl, F, hs.map nm, rfl, .of hF, by simp; omega, fun ys p pe so np => ?_⟩
      obtain ⟨l, rfl, pl⟩ := perm_nm pe hs rfl
      refine q p _ l (sm.trans (same_new np)) ?_ (by rw [← map_hv]; exact upd_same) pl (sorted_nm so (pl.nodup_iff.mpr hd))
      exact sm.free np
end
end K80

set_option maxHeartbeats 4000000
/-! list(d.values()); dict comprehensions over the hands -/
namespace K80
open PySem PySem.Spec L2
open PyProof.Rows hiding St
def tListVals (te : TE) : TE := fun σ H Q => te σ H fun x H1 => ∃ (d : Addr) (kvs : List (Key × V)), x = .ref d ∧ H1 d = some (.dK kvs) ∧ ∀ p, H1 p = none → Q (.ref p) (upd H1 p (.lst (kvs.map (·.2))))
section
variable {X : Cx} {e : Expr} {te : TE} {p apos cpos pos : Pos}
theorem pe_listVals (hc : X.calm = true) (he : PE X e te) (hg : Gl X "list") (hm : X.mg "list" = none) (hv : bootBuiltins "list" = some (.type "list")) (hbase : attributeBase e "values" X.env (eval e X.env) = eval e X.env := by rfl) (hline : (apos.endLine == cpos.line) = true := by rfl)
    (hs : starEach [.Call (.Attribute e "values" apos) [] [] cpos] X.env = (false, eval (.Call (.Attribute e "values" apos) [] [] cpos) X.env) :: starEach [] X.env := by rfl) :
    PE X (.Call (.Name "list" p) [.Call (.Attribute e "values" apos) [] [] cpos] [] pos) (tListVals te) := by
  refine ⟨fun pins s σ H Q I hq => wpAny_Call_Name_kw (ld_blt I hg hm hv (PyProof.Rows.callWith_type1 ?_ hs rfl))⟩
  rw [hs]
  show wpAny _ _ (spliced ((false, eval (.Call (.Attribute e "values" apos) [] [] cpos) X.env) :: backTo pos (starEach [] X.env))) _ _ s
  refine Calls.spliced_cons (wpAny_Call_method (T := "dict") (id := "dict.values") hbase rfl hline F.plainAttrs_dict F.slot_dict_values F.type_dict_values (thn (he.run pins s σ H _ I hq) fun u s1 ⟨x, H1, I1, rx, d, kvs, ex, hd, q⟩ => ?_))
  subst ex
  obtain rfl : u = Value.ref d := rx
  obtain ⟨hz, hs0, vs, kv, hdo⟩ := I1.hok d _ hd
  obtain ⟨ep, hat⟩ := hdo.dictAt
  have lk : kvs.length = vs.length := Paired.length kv
  have I2 : Inv X pins σ H1 { s1 with heap := s1.heap.push { cls := .type "dict_values", data := .fields #[.ref d] } } := I1.kept (t' := s1.toks) fun b ob q => Heap.get?_push_of_some _ q
  refine ⟨hdo.typeIs, hdo.mapOf.noDict, ?_⟩
  show wpAny _ _ (callWith cpos (.builtin "dict.values") [.ref d] [] []) _ X.xe s1
  refine method_meetsIn F.slot_dict_values F.entry_dict_values rfl (PySem.evalArgs_none ⟨rfl, hdo.typeIs, F.args_dict_values_1 _, _, meets_dict_values (mixKind X.prog X.w) d hs0, ⟨vs, hdo⟩, ?_⟩)
  refine Calls.spliced_nil ?_
  refine PySem.W.kdl_call (PySem.W.kdl_values (knd := mixKind X.prog X.w) (kvs := vs) (ep := ep)) (I1.ok.hd hc) ⟨⟨_, Heap.get?_push_size _ rfl, rfl, rfl⟩, hat.push _⟩ (by omega) fun h' tk acc c hk hS hacc => ?_
  have nI := I2.hok.fresh (Nat.le_refl _)
  have za : acc.toList.length = acc.size := by simp
  refine ⟨.ref _, upd H1 _ (.lst (kvs.map (·.2))), I2.laid (t' := tk) hk (Nat.le_refl _) (show ObjOk X.prog X.w _ _ _ (.lst (kvs.map (·.2))) from ⟨by rw [List.length_map]; exact hz, acc.toList, c, ?_, by rw [Array.toArray_toList]; exact hS⟩), rfl, q _ nI⟩
  refine vals_of_at (by rw [List.length_map, za, hacc.1, lk]) fun j x u h1 h2 => ?_
  obtain ⟨k, hky⟩ := hacc.2 j u (by rw [← Array.getElem?_toList]; exact h2)
  rw [List.getElem?_map] at h1
  obtain ⟨⟨k', x'⟩, h3, rfl⟩ := Option.map_eq_some_iff.mp h1
  obtain ⟨u', h4, r⟩ := kv_get kv h3
  rw [h4] at hky
  cases hky
  exact r
end
theorem deep_of {A : Around} {k : Nat} (hr : Room k A) : A.units + 65 < cLine := by have := hr.un; omega
theorem deep64 {A : Around} {k : Nat} (hr : Room k A) : A.units + 64 < cLine := by have := hr.un; omega
theorem filter_all {α : Type} (l : List α) : l.filter (fun _ => true) = l := List.filter_eq_self.mpr fun _ _ => rfl
/-! ### walks that leave what stands -/
/-- the iterator J gives the items us (by A) from any later heap -/
def Wk {α : Type} (J : It) (H1 : Hp) (us : List α) (A : Hp → V → α → Prop) : Prop :=
  (∀ i u H, us[i]? = some u → Same H1 H → J.go i H ∧ ∀ y H', J.yld i H y H' → Same H H' ∧ A H' y u) ∧ ∀ H, Same H1 H → J.stop us.length H
section
variable {α β γ : Type} {K : PySem.W.Frag} {H1 : Hp} {a : Addr} {xs : List V} {us : List α} {A : Hp → V → α → Prop}
theorem wk_list (hS : SqL K H1 a xs) (hA : Paired (A H1) xs us) (sA : ∀ H H' v u, Same H H' → A H v u → A H' v u) : Wk (Itl K a) H1 us A := by
  refine ⟨fun i u H hu s => ?_, fun H s => ⟨xs, s.seq hS, Nat.le_of_eq hA.length⟩⟩
  obtain ⟨x, hx, hAx⟩ := pr_get hA hu
  exact ⟨⟨xs, x, s.seq hS, hx⟩, fun y H' ⟨e, h⟩ => by
    subst e
    have := h xs (s.seq hS)
    rw [hx] at this
    cases this
    exact ⟨.refl _, sA _ _ _ _ s hAx⟩⟩
theorem same_t {H H' : Hp} (s : Same H H') (h : SqT K H a xs) : SqT K H' a xs := by
  rcases h with (h | ⟨o, h⟩) | h
  · exact .inl (.inl (s _ _ h))
  · exact .inl (.inr ⟨o, s _ _ h⟩)
  · exact .inr h
theorem wk_tup (hS : SqT K H1 a xs) (hA : Paired (A H1) xs us) (sA : ∀ H H' v u, Same H H' → A H v u → A H' v u) : Wk (Itt K a) H1 us A := by
  refine ⟨fun i u H hu s => ?_, fun H s => ⟨xs, same_t s hS, Nat.le_of_eq hA.length⟩⟩
  obtain ⟨x, hx, hAx⟩ := pr_get hA hu
  exact ⟨⟨xs, x, same_t s hS, hx⟩, fun y H' ⟨e, h⟩ => by
    subst e
    have := h xs (same_t s hS)
    rw [hx] at this
    cases this
    exact ⟨.refl _, sA _ _ _ _ s hAx⟩⟩
theorem wk_hands {hs : List Nat} (hS : SqL K H1 a (hs.map hv)) : Wk (Itl K a) H1 hs (fun _ v u => v = hv u) := wk_list hS (pr_map hv hs) fun _ _ _ _ _ h => h
theorem wk_keys {o : Obj} {kvs : List (Key × V)} (h : H1 a = some (.frz o (.dK kvs))) : Wk (Itk a o kvs) H1 kvs (fun _ v u => v = kV u.1) :=
  ⟨fun i u H hu s => ⟨⟨s _ _ h, (List.getElem?_eq_some_iff.mp hu).1⟩, fun y H' ⟨e, k, v, hk, hy⟩ => by
    subst e
    rw [hu] at hk
    cases hk
    exact ⟨.refl _, hy⟩⟩, fun H s => ⟨s _ _ h, Nat.le_refl _⟩⟩
theorem wk_keysT {o : Obj} {kvs : List (List Key × V)} (h : H1 a = some (.frz o (.dT kvs))) : Wk (Itkt a o kvs) H1 kvs (fun H v u => ∃ q, v = .ref q ∧ H q = some (.tup (u.1.map kV))) :=
  ⟨fun i u H hu s => ⟨⟨s _ _ h, (List.getElem?_eq_some_iff.mp hu).1⟩, fun y H' ⟨e, k, v, q, hk, hy, hq⟩ => by
    subst e
    rw [hu] at hk
    cases hk
    exact ⟨.refl _, q, hy, hq⟩⟩, fun H s => ⟨s _ _ h, Nat.le_refl _⟩⟩
theorem wk_range {lo : Int} {n : Nat} : Wk (Itr lo n) H1 (List.range n) (fun _ v u => v = .int (lo + u)) :=
  ⟨fun i u H hu s => by
    have hi : i < n := by have := (List.getElem?_eq_some_iff.mp hu).1; simpa using this
    rw [List.getElem?_range hi] at hu
    cases hu
    refine ⟨hi, fun y H' ⟨e, hy⟩ => ?_⟩
    subst e
    exact ⟨.refl _, hy⟩, fun H s => by rw [List.length_range]; exact Nat.le_refl _⟩
theorem Wk.same {J : It} {H2 : Hp} (w : Wk J H1 us A) (s : Same H1 H2) : Wk J H2 us A := ⟨fun i u H hu s' => w.1 i u H hu (s.trans s'), fun H s' => w.2 H (s.trans s')⟩
theorem Wk.mapA {J : It} {B : Hp → V → α → Prop} (w : Wk J H1 us A) (h : ∀ H v u, A H v u → B H v u) : Wk J H1 us B :=
  ⟨fun i u H hu s => ⟨(w.1 i u H hu s).1, fun y H' hy => let ⟨s', a⟩ := (w.1 i u H hu s).2 y H' hy; ⟨s', h _ _ _ a⟩⟩, w.2⟩
theorem Wk.mapU {J : It} {vs : List γ} {f : α → γ} {B : Hp → V → γ → Prop} (w : Wk J H1 us A) (e : us.map f = vs) (h : ∀ H v u, A H v u → B H v (f u)) : Wk J H1 vs B := by
  subst e
  refine ⟨fun i u H hu s => ?_, fun H s => by rw [List.length_map]; exact w.2 H s⟩
  rw [List.getElem?_map] at hu
  obtain ⟨x, hx, rfl⟩ := Option.map_eq_some_iff.mp hu
  exact ⟨(w.1 i x H hx s).1, fun y H' hy => let ⟨s', a⟩ := (w.1 i x H hx s).2 y H' hy; ⟨s', h _ _ _ a⟩⟩
end
section
variable {K : PySem.W.Frag} {a b : Addr} {g g1 : TG} {tt tt1 : TT} {te tk tv : TE} {vs vs1 : List Nat} {σ : L2.St} {H1 : Hp} {D : Addr} {Qd : Hp → Prop} {α β γ : Type} {J : It}
/-- a list comprehension: the items that p takes, by f -/
theorem lcw {us : List α} (A : Hp → V → α → Prop) (B : Hp → V → β → Prop) (p : α → Bool) (f : α → β) (wk : Wk J H1 us A)
    (sB : ∀ H H' v u, KeepT H H' → B H v u → B H' v u) (hz : us.length ≤ 1000000)
    (turn : ∀ (i : Nat) (x : V) (u : α) (H : Hp) (QF : Hp → Prop) (QT : V → Hp → Prop), us[i]? = some u → A H x u → Same H1 H → (p u = false → ∀ H', Same H H' → QF H') → (p u = true → ∀ y H', Same H H' → B H' y (f u) → QT y H') →
      g x (wipe σ vs) H fun σ2 H2 => wipe σ2 vs = wipe σ vs ∧ tt σ2 H2 fun c H3 => if c = true then te σ2 H3 QT else QF H3)
    (nD : H1 D = none) (fin : ∀ ys H', Same H1 H' → H' D = some (.lst ys) → Paired (B H') ys ((us.filter p).map f) → Qd H') :
    ∃ W : Nat → Nat → Hp → Prop, (∃ m, W 0 m (upd H1 D (.lst []))) ∧ ∀ i m H, W i m H →
      (J.stop i H ∧ Qd H) ∨ (J.go i H ∧ ∃ Nx : Hp → Prop, (∀ H', Nx H' → ∃ m', m' < m ∧ W (i + 1) m' H') ∧ ∀ x H', J.yld i H x H' → g x (wipe σ vs) H' fun σ2 H2 => wipe σ2 vs = wipe σ vs ∧ tt σ2 H2 fun b H3 =>
        if b = true then te σ2 H3 fun y H4 => ∃ acc, H4 D = some (.lst acc) ∧ acc.length < sizeLine ∧ Nx (upd H4 D (.lst (acc ++ [y]))) else Nx H3) := by
  let Pv : Nat → Hp → Prop := fun i H => Same H1 H ∧ ∃ ys, H D = some (.lst ys) ∧ ys.length ≤ i ∧ Paired (B H) ys (((us.take i).filter p).map f)
  refine ⟨fun i m H => i + m = us.length ∧ Pv i H, ⟨us.length, by omega, same_new nD, [], upd_same, Nat.le_refl _, .nil⟩, fun i m H ⟨e, s, ys, hD, hl, hP⟩ => ?_⟩
  by_cases hi : i < us.length
  · have hu := List.getElem?_eq_getElem hi
    obtain ⟨go, yl⟩ := wk.1 i _ H hu s
    refine .inr ⟨go, Pv (i + 1), fun H' hn => ⟨m - 1, by omega, by omega, hn⟩, fun x H0 hy => ?_⟩
    obtain ⟨s0, hAu⟩ := yl x H0 hy
    refine turn i x us[i] H0 _ _ hu hAu (s.trans s0) (fun c H' s' => ?_) (fun c y H' s' hB => ?_)
    · refine ⟨(s.trans s0).trans s', ys, s' _ _ (s0 _ _ hD), by omega, ?_⟩
      rw [filterMap_take_succ hu, c]
      simp
      exact pr_mono hP fun v w h => sB _ _ _ _ (keepT_same (s0.trans s')) h
    · have hD' : H' D = some (.lst ys) := s' _ _ (s0 _ _ hD)
      have kt : KeepT H' (upd H' D (.lst (ys ++ [y]))) := keepT_upd hD' (fun _ z => by cases z)
      refine ⟨ys, hD', Nat.lt_of_le_of_lt hl (Nat.lt_of_lt_of_le hi (Nat.le_trans hz (by decide))), same_mut ((s.trans s0).trans s') nD, ys ++ [y], upd_same, by simp; omega, ?_⟩
      rw [filterMap_take_succ hu, c]
      simp
      exact Paired.snoc (pr_mono hP fun v w h => sB _ _ _ _ ((keepT_same (s0.trans s')).trans kt) h) (sB _ _ _ _ kt hB)
  · have : i = us.length := by omega
    subst this
    rw [List.take_length] at hP
    exact .inl ⟨wk.2 H s, fin ys H s hD hP⟩
theorem flat_take_succ {ws : List γ} {p : α → γ → Bool} {f : α → γ → β} {us : List α} {i : Nat} {u : α} (h : us[i]? = some u) :
    (us.take (i + 1)).flatMap (fun u => (ws.filter (p u)).map (f u)) = (us.take i).flatMap (fun u => (ws.filter (p u)).map (f u)) ++ (ws.filter (p u)).map (f u) := by
  rw [take_succ' h, List.flatMap_append]
  simp
/-- two clauses -/
theorem lcw2 {wi1 : TI} {us : List α} {ws : List γ} (A : Hp → V → α → Prop) (A1 : Hp → V → γ → Prop) (B : Hp → V → β → Prop) (Z : α → V → L2.St → Prop) (p : α → γ → Bool) (f : α → γ → β) (wk : Wk J H1 us A)
    (sA : ∀ H H' v u, KeepT H H' → A H v u → A H' v u) (sB : ∀ H H' v u, KeepT H H' → B H v u → B H' v u) (hz : us.length * ws.length ≤ 1000000)
    (turn0 : ∀ (i : Nat) (x : V) (u : α) (H : Hp) (Qn : Hp → Prop) (R : L2.St → It → Hp → Prop), us[i]? = some u → A H x u → Same H1 H → (∀ σ2 J1 H4, Same H H4 → Z u x σ2 → Wk J1 H1 ws A1 → R σ2 J1 H4) →
      g x (wipe σ vs) H fun σ2 H2 => wipe σ2 vs = wipe σ vs ∧ tt σ2 H2 fun b H3 => if b = true then wi1 σ2 H3 (R σ2) else Qn H3)
    (turn1 : ∀ (i : Nat) (u : α) (x : V) (σ2 : L2.St) (z : V) (w : γ) (H : Hp) (QF : Hp → Prop) (QT : V → Hp → Prop), us[i]? = some u → Z u x σ2 → w ∈ ws → A H x u → A1 H z w → Same H1 H → (p u w = false → ∀ H', Same H H' → QF H') → (p u w = true → ∀ y H', Same H H' → B H' y (f u w) → QT y H') →
      g1 z (wipe σ2 vs1) H fun σ3 H5 => wipe σ3 vs1 = wipe σ2 vs1 ∧ tt1 σ3 H5 fun b H6 => if b = true then te σ3 H6 QT else QF H6)
    (nD : H1 D = none) (fin : ∀ ys H', Same H1 H' → H' D = some (.lst ys) → Paired (B H') ys (us.flatMap fun u => (ws.filter (p u)).map (f u)) → Qd H') :
    ∃ W : Nat → Nat → Hp → Prop, (∃ m, W 0 m (upd H1 D (.lst []))) ∧ ∀ i m H, W i m H →
      (J.stop i H ∧ Qd H) ∨ (J.go i H ∧ ∃ Nx : Hp → Prop, (∀ H', Nx H' → ∃ m', m' < m ∧ W (i + 1) m' H') ∧ ∀ x H', J.yld i H x H' → g x (wipe σ vs) H' fun σ2 H2 => wipe σ2 vs = wipe σ vs ∧ tt σ2 H2 fun b H3 =>
        if b = true then wi1 σ2 H3 fun J1 H4 => ∃ W1 : Nat → Nat → Hp → Prop, (∃ m, W1 0 m H4) ∧ ∀ j k H, W1 j k H →
          (J1.stop j H ∧ Nx H) ∨ (J1.go j H ∧ ∃ Nx1 : Hp → Prop, (∀ H', Nx1 H' → ∃ k', k' < k ∧ W1 (j + 1) k' H') ∧ ∀ x H', J1.yld j H x H' → g1 x (wipe σ2 vs1) H' fun σ3 H5 => wipe σ3 vs1 = wipe σ2 vs1 ∧ tt1 σ3 H5 fun b H6 =>
            if b = true then te σ3 H6 fun y H7 => ∃ acc, H7 D = some (.lst acc) ∧ acc.length < sizeLine ∧ Nx1 (upd H7 D (.lst (acc ++ [y]))) else Nx1 H6)
        else Nx H3) := by
  let F : α → List β := fun u => (ws.filter (p u)).map (f u)
  let Pv : Nat → Hp → Prop := fun i H => Same H1 H ∧ ∃ ys, H D = some (.lst ys) ∧ ys.length ≤ i * ws.length ∧ Paired (B H) ys ((us.take i).flatMap F)
  refine ⟨fun i m H => i + m = us.length ∧ Pv i H, ⟨us.length, by omega, same_new nD, [], upd_same, Nat.zero_le _, .nil⟩, fun i m H ⟨e, s, ys, hD, hl, hP⟩ => ?_⟩
  by_cases hi : i < us.length
  · have hu := List.getElem?_eq_getElem hi
    obtain ⟨go, yl⟩ := wk.1 i _ H hu s
    refine .inr ⟨go, Pv (i + 1), fun H' hn => ⟨m - 1, by omega, by omega, hn⟩, fun x H0 hy => ?_⟩
    obtain ⟨s0, hAu⟩ := yl x H0 hy
    refine turn0 i x us[i] H0 _ _ hu hAu (s.trans s0) fun σ2 J1 H4 s4 hZ wk1 => ?_
    let P1 : Nat → Hp → Prop := fun j H => Same H1 H ∧ KeepT H0 H ∧ ∃ ys, H D = some (.lst ys) ∧ ys.length ≤ i * ws.length + j ∧ Paired (B H) ys ((us.take i).flatMap F ++ ((ws.take j).filter (p us[i])).map (f us[i]))
    refine ⟨fun j k H => j + k = ws.length ∧ P1 j H, ⟨ws.length, by omega, (s.trans s0).trans s4, keepT_same s4, ys, s4 _ _ (s0 _ _ hD), by omega, ?_⟩, fun j k H' ⟨e', s', kt', ys', hD', hl', hP'⟩ => ?_⟩
    · simp only [List.take_zero, List.filter_nil, List.map_nil, List.append_nil]
      exact pr_mono hP fun v w h => sB _ _ _ _ (keepT_same (s0.trans s4)) h
    · have bound : i * ws.length + ws.length ≤ 1000000 := by
        have : (i + 1) * ws.length ≤ us.length * ws.length := Nat.mul_le_mul_right _ hi
        rw [Nat.succ_mul] at this
        omega
      by_cases hj : j < ws.length
      · have hw := List.getElem?_eq_getElem hj
        obtain ⟨go1, yl1⟩ := wk1.1 j _ H' hw s'
        refine .inr ⟨go1, P1 (j + 1), fun H' hn => ⟨k - 1, by omega, by omega, hn⟩, fun z H5 hz1 => ?_⟩
        obtain ⟨s5, hAw⟩ := yl1 z H5 hz1
        refine turn1 i us[i] x σ2 z ws[j] H5 _ _ hu hZ (List.getElem_mem hj) (sA _ _ _ _ (kt'.trans (keepT_same s5)) hAu) hAw (s'.trans s5) (fun c H6 s6 => ?_) (fun c y H6 s6 hB => ?_)
        · refine ⟨(s'.trans s5).trans s6, (kt'.trans (keepT_same s5)).trans (keepT_same s6), ys', s6 _ _ (s5 _ _ hD'), by omega, ?_⟩
          rw [filterMap_take_succ hw, c]
          simp
          exact pr_mono hP' fun v w h => sB _ _ _ _ (keepT_same (s5.trans s6)) h
        · have hD6 : H6 D = some (.lst ys') := s6 _ _ (s5 _ _ hD')
          have kt : KeepT H6 (upd H6 D (.lst (ys' ++ [y]))) := keepT_upd hD6 (fun _ z => by cases z)
          refine ⟨ys', hD6, Nat.lt_of_le_of_lt hl' (Nat.lt_of_lt_of_le (Nat.add_lt_add_left hj _) (Nat.le_trans bound (by decide))), same_mut ((s'.trans s5).trans s6) nD, ((kt'.trans (keepT_same s5)).trans (keepT_same s6)).trans kt, ys' ++ [y], upd_same, by simp; omega, ?_⟩
          rw [filterMap_take_succ hw, c, if_pos rfl, ← List.append_assoc]
          exact Paired.snoc (pr_mono hP' fun v w h => sB _ _ _ _ ((keepT_same (s5.trans s6)).trans kt) h) (sB _ _ _ _ kt hB)
      · have : j = ws.length := by omega
        subst this
        refine .inl ⟨wk1.2 H' s', s', ys', hD', ?_, ?_⟩
        · rw [Nat.succ_mul]; exact hl'
        · rw [flat_take_succ hu]
          rw [List.take_length] at hP'
          exact hP'
  · have : i = us.length := by omega
    subst this
    rw [List.take_length] at hP
    exact .inl ⟨wk.2 H s, fin ys H s hD hP⟩
/-- a dict comprehension over the hands: the hand its key -/
theorem dcw {hs : List Nat} (B : Hp → V → Nat → Prop) (wk : Wk J H1 hs (fun _ v u => v = hv u)) (hd : hs.Nodup) (hz : hs.length ≤ 1000) (sB : ∀ H H' v u, KeepT H H' → B H v u → B H' v u)
    (turn : ∀ h ∈ hs, ∀ (H : Hp) (Nx : Hp → Prop), Same H1 H → (∀ v H', Same H H' → B H' v h → ∃ H3, DPut H' D (hv h) v H3 ∧ Nx H3) →
      g (hv h) (wipe σ vs) H fun σ2 H2 => wipe σ2 vs = wipe σ vs ∧ tt σ2 H2 fun b H3 => if b = true then tPutA D tk tv σ2 H3 Nx else Nx H3)
    (nD : H1 D = none) (fin : ∀ v H', Same H1 H' → H' D = some (.dK (dh hs v)) → (∀ h ∈ hs, B H' (v h) h) → Qd H') :
    ∃ W : Nat → Nat → Hp → Prop, (∃ m, W 0 m (upd H1 D (.dK []))) ∧ ∀ i m H, W i m H →
      (J.stop i H ∧ Qd H) ∨ (J.go i H ∧ ∃ Nx : Hp → Prop, (∀ H', Nx H' → ∃ m', m' < m ∧ W (i + 1) m' H') ∧ ∀ x H', J.yld i H x H' → g x (wipe σ vs) H' fun σ2 H2 => wipe σ2 vs = wipe σ vs ∧ tt σ2 H2 fun b H3 => if b = true then tPutA D tk tv σ2 H3 Nx else Nx H3) := by
  let Pv : Nat → Hp → Prop := fun i H => Same H1 H ∧ ∃ v, H D = some (.dK (dh (hs.take i) v)) ∧ ∀ h ∈ hs.take i, B H (v h) h
  refine ⟨fun i m H => i + m = hs.length ∧ Pv i H, ⟨hs.length, by omega, same_new nD, fun _ => .non, upd_same, fun h hh => by simp at hh⟩, fun i m H ⟨e, s, v, hD, hP⟩ => ?_⟩
  by_cases hi : i < hs.length
  · have hu := List.getElem?_eq_getElem hi
    obtain ⟨go, yl⟩ := wk.1 i _ H hu s
    refine .inr ⟨go, Pv (i + 1), fun H' hn => ⟨m - 1, by omega, by omega, hn⟩, fun x H0 hy => ?_⟩
    obtain ⟨s0, hx⟩ := yl x H0 hy
    subst hx
    refine turn hs[i] (List.getElem_mem hi) H0 _ (s.trans s0) fun y H' s' hB => ?_
    have hD' : H' D = some (.dK (dh (hs.take i) v)) := s' _ _ (s0 _ _ hD)
    have hnot : hs[i] ∉ hs.take i := fun c => by
      obtain ⟨j, hj⟩ := List.mem_iff_getElem?.mp c
      rw [List.getElem?_take] at hj
      split at hj
      · rename_i ji
        have := (List.getElem?_inj hi hd).mp (hu.trans hj.symm)
        omega
      · cases hj
    have kt : KeepT H' (upd H' D (.dK (dh (hs.take i ++ [hs[i]]) fun x => if x = hs[i] then y else v x))) := keepT_upd hD' (fun _ z => by cases z)
    refine ⟨_, .inl ⟨_, hk1 hs[i], hD', rfl, ?_, rfl⟩, ?_⟩
    · rw [List.length_map, List.length_take]
      exact small1000 (by omega)
    · rw [put_dh_new y hnot]
      refine ⟨same_mut ((s.trans s0).trans s') nD, _, by rw [upd_same, take_succ' hu], fun h hh => ?_⟩
      rw [take_succ' hu] at hh
      rcases List.mem_append.mp hh with z | z
      · have : ¬ h = hs[i] := fun c => hnot (c ▸ z)
        rw [if_neg this]
        exact sB _ _ _ _ ((keepT_same (s0.trans s')).trans kt) (hP h z)
      · simp at z
        subst z
        rw [if_pos rfl]
        exact sB _ _ _ _ kt hB
  · have : i = hs.length := by omega
    subst this
    rw [List.take_length] at hD hP
    exact .inl ⟨wk.2 H s, fin v H s hD hP⟩
end
end K80

set_option maxHeartbeats 4000000
namespace K80
open PySem PySem.Spec L2
open PyProof.Rows hiding St
abbrev s_lowest : Stmt := (topS 19)
theorem sc_lowest : FnScope ["top", "bottom", "many"] ["top", "bottom"] (defScope s_lowest) := ⟨rfl, rfl, rfl, by decide +kernel, rfl, by decide +kernel, by decide +kernel⟩
abbrev s_less : Stmt := (topS 20)
theorem sc_less : FnScope ["one", "other"] ["one", "other"] (defScope s_less) := ⟨rfl, rfl, rfl, by decide +kernel, rfl, by decide +kernel, by decide +kernel⟩
abbrev s_is_below : Stmt := (topS 21)
theorem sc_is_below : FnScope ["one", "other"] ["one", "other"] (defScope s_is_below) := ⟨rfl, rfl, rfl, by decide +kernel, rfl, by decide +kernel, by decide +kernel⟩
section
variable {P : Program} {w : World} {K : PySem.W.Frag} {mg : Str → Option Value} {base : Heap}
def spLowest : Sp := fun vs H Q _ => ∃ a b : Int, vs = [.int a, .int b] ∧ 0 < b ∧ b.natAbs < 2 ^ 8000 ∧ ∀ p H', Same H H' → H p = none → H' p = some (.tup [.int (lowF a b).1, .int (lowF a b).2]) → Q (.ref p) H'
theorem ok_lowest (T : Txt K mg) : CallOk P w K mg base CX0 1 "lowest" ["top", "bottom"] [] spLowest := by
  refine def_ok (st := s_lowest) T 7 5 rfl rfl sc_lowest (fun _ _ _ _ _ _ us hl => match us, hl with | [_, _], _ => rfl) (fun vs H Q E h => ?_) (fun cdv f A outer s H vs Q E hr h => ?_)
  · obtain ⟨a, b, rfl, _⟩ := h
    rfl
  · obtain ⟨a, b, rfl, hb, hz, q⟩ := h
    refine ⟨_, PSs.nox (pss_cons (ps_set (i := 2) sc_lowest.nd rfl (.inl rfl) (pe_callBfun cr_gcd (by rfl) T.gcd (pa_cons (pv 0) (pa_cons (pv 1) pa_nil))))
      (pss_one (ps_ret (pe_tup (pa_cons (pe_op op_fdivW (pv 0) (pv 2)) (pa_cons (pe_op op_fdivW (pv 1) (pv 2)) pa_nil)))))), ?_⟩
    have g0 : 0 < Nat.gcd a.natAbs b.natAbs := Nat.gcd_pos_of_pos_right _ (by omega)
    have g1 : ((Nat.gcd a.natAbs b.natAbs : Nat) : Int).natAbs < 2 ^ 8000 := by
      have := Nat.gcd_le_right a.natAbs (n := b.natAbs) (by omega)
      exact Nat.lt_of_le_of_lt this hz
    have cd : ∀ i, CDivW i ((Nat.gcd a.natAbs b.natAbs : Nat) : Int) := fun i => wide_div (by exact_mod_cast g0) g1 (by decide) (by decide)
    refine ⟨_, rfl, _, rfl, a, b, rfl, ?_⟩
    refine ⟨_, rfl, _, rfl, _, _, rfl, rfl, cd _, _, rfl, _, rfl, _, _, rfl, rfl, cd _, ?_⟩
    exact ⟨by show 2 ≤ sizeLine; decide, fun p np => q p _ (same_new np) np upd_same⟩
def lessF (x y : Int × Int) : Int × Int := lowF (x.1 * y.2 - y.1 * x.2) (x.2 * y.2)
/-- a fraction's tuple stands at a -/
abbrev FrAt (H : Hp) (a : Addr) (x : Int × Int) : Prop := H a = some (.tup [.int x.1, .int x.2])
/-- its size -/
def Sz (n : Nat) (x : Int × Int) : Prop := x.1.natAbs < 2 ^ n ∧ x.2.natAbs < 2 ^ n ∧ 0 < x.2
def spLess : Sp := fun vs H Q _ => ∃ (a b : Addr) (x y : Int × Int), vs = [.ref a, .ref b] ∧ FrAt H a x ∧ FrAt H b y ∧ Sz 2000 x ∧ Sz 2000 y ∧ ∀ p H', Same H H' → H p = none → FrAt H' p (lessF x y) → Q (.ref p) H'
theorem ok_less (T : Txt K mg) : CallOk P w K mg base CX0 2 "less" ["one", "other"] [] spLess := by
  have C_lowest : CallOk P w K mg base CX0 1 "lowest" ["top", "bottom"] [] spLowest := ok_lowest T
  refine def_ok (st := s_less) T 8 6 rfl rfl sc_less (fun _ _ _ _ _ _ us hl => match us, hl with | [_, _], _ => rfl) (fun vs H Q E h => ?_) (fun cdv f A outer s H vs Q E hr h => ?_)
  · obtain ⟨a, b, x, y, rfl, _⟩ := h
    rfl
  · obtain ⟨a, b, x, y, rfl, ha, hb, ⟨x1, x2, x3⟩, ⟨y1, y2, y3⟩, q⟩ := h
    refine ⟨_, PSs.nox (pss_one (ps_ret (pe_callT C_lowest (hr.mono (by decide)) (by rfl) pass0 (pa_cons (pe_op op_sub (pe_op op_mulW (pe_ix (ix_tupK (K := K) rfl) (pv 0) (pe_int) (fun _ _ => rfl)) (pe_ix (ix_tupK (K := K) rfl) (pv 1) (pe_int) (fun _ _ => rfl))) (pe_op op_mulW (pe_ix (ix_tupK (K := K) rfl) (pv 1) (pe_int) (fun _ _ => rfl)) (pe_ix (ix_tupK (K := K) rfl) (pv 0) (pe_int) (fun _ _ => rfl)))) (pa_cons (pe_op op_mulW (pe_ix (ix_tupK (K := K) rfl) (pv 0) (pe_int) (fun _ _ => rfl)) (pe_ix (ix_tupK (K := K) rfl) (pv 1) (pe_int) (fun _ _ => rfl))) pa_nil))))), ?_⟩
    have ta := SqT.of (K := K) ha
    have tb := SqT.of (K := K) hb
    refine ⟨_, rfl, a, _, 0, _, rfl, rfl, ta, rfl, _, rfl, b, _, 1, _, rfl, rfl, tb, rfl, _, _, rfl, rfl, wide_mul x1 y2 (by decide) (by decide) (by decide), ?_⟩
    refine ⟨_, rfl, b, _, 0, _, rfl, rfl, tb, rfl, _, rfl, a, _, 1, _, rfl, rfl, ta, rfl, _, _, rfl, rfl, wide_mul y1 x2 (by decide) (by decide) (by decide), _, _, rfl, rfl, ?_⟩
    refine ⟨_, rfl, a, _, 1, _, rfl, rfl, ta, rfl, _, rfl, b, _, 1, _, rfl, rfl, tb, rfl, _, _, rfl, rfl, wide_mul x2 y2 (by decide) (by decide) (by decide), ?_⟩
    have z := wide_lt x2 y2
    exact ⟨_, _, rfl, Int.mul_pos x3 y3, Nat.lt_of_lt_of_le z (Nat.pow_le_pow_right (by decide) (by decide)), fun p H' => q p H'⟩
def belowF (x y : Int × Int) : Bool := decide (x.1 * y.2 < y.1 * x.2)
def spBelow : Sp := fun vs H Q _ => ∃ (a b : Addr) (x y : Int × Int), vs = [.ref a, .ref b] ∧ FrAt H a x ∧ FrAt H b y ∧ Sz 2000 x ∧ Sz 2000 y ∧ Q (.bl (belowF x y)) H
theorem ok_is_below (T : Txt K mg) : CallOk P w K mg base CX0 1 "is_below" ["one", "other"] [] spBelow := by
  refine def_ok (st := s_is_below) T 9 7 rfl rfl sc_is_below (fun _ _ _ _ _ _ us hl => match us, hl with | [_, _], _ => rfl) (fun vs H Q E h => ?_) (fun cdv f A outer s H vs Q E hr h => ?_)
  · obtain ⟨a, b, x, y, rfl, _⟩ := h
    rfl
  · obtain ⟨a, b, x, y, rfl, ha, hb, ⟨x1, x2, x3⟩, ⟨y1, y2, y3⟩, q⟩ := h
    refine ⟨_, PSs.nox (pss_one (ps_ret (pe_cmpR op_lt (pe_op op_mulW (pe_ix (ix_tupK (K := K) rfl) (pv 0) (pe_int) (fun _ _ => rfl)) (pe_ix (ix_tupK (K := K) rfl) (pv 1) (pe_int) (fun _ _ => rfl))) (pe_op op_mulW (pe_ix (ix_tupK (K := K) rfl) (pv 1) (pe_int) (fun _ _ => rfl)) (pe_ix (ix_tupK (K := K) rfl) (pv 0) (pe_int) (fun _ _ => rfl))) (nomark _)))), ?_⟩
    have ta := SqT.of (K := K) ha
    have tb := SqT.of (K := K) hb
    refine ⟨_, rfl, a, _, 0, _, rfl, rfl, ta, rfl, _, rfl, b, _, 1, _, rfl, rfl, tb, rfl, _, _, rfl, rfl, wide_mul x1 y2 (by decide) (by decide) (by decide), ?_⟩
    exact ⟨_, rfl, b, _, 0, _, rfl, rfl, tb, rfl, _, rfl, a, _, 1, _, rfl, rfl, ta, rfl, _, _, rfl, rfl, wide_mul y1 x2 (by decide) (by decide) (by decide), _, _, rfl, rfl, q⟩
end
end K80

set_option maxHeartbeats 4000000
/-! readings (dicts of fractions), rings -/
namespace K80
open PySem PySem.Spec L2
open PyProof.Rows hiding St
abbrev s_kept_fraction : Stmt := (topS 22)
theorem sc_kept_fraction : FnScope ["thing", "part"] ["thing"] (defScope s_kept_fraction) := ⟨rfl, rfl, rfl, by decide +kernel, rfl, by decide +kernel, by decide +kernel⟩
abbrev s_kept_reading : Stmt := (topS 23)
theorem sc_kept_reading : FnScope ["thing", "hands", "found", "hand"] ["thing", "hands"] (defScope s_kept_reading) := ⟨rfl, rfl, rfl, by decide +kernel, rfl, by decide +kernel, by decide +kernel⟩
section
variable {P : Program} {w : World} {K : PySem.W.Frag} {mg : Str → Option Value} {base : Heap}
def spKeptFraction (K : PySem.W.Frag) : Sp := fun vs H Q _ => (∃ (a : Addr) (x : Int × Int), vs = [.ref a] ∧ FrAt H a x ∧ Sz 2000 x ∧ ∀ p H', Same H H' → H p = none → FrAt H' p (lowF x.1 x.2) → Q (.ref p) H') ∨
  ∃ x t, vs = [x] ∧ Tyb K H x t ∧ t ≠ "list" ∧ t ≠ "tuple" ∧ ∀ H', Same H H' → Q .non H'
theorem ok_kept_fraction (T : Txt K mg) : CallOk P w K mg base CX0 2 "kept_fraction" ["thing"] [] (spKeptFraction K) := by
  have C_is_list : CallOk P w K mg base CX0 1 "is_list" ["thing"] [] (spIsList K) := ok_is_list T
  have C_is_integer : CallOk P w K mg base CX0 1 "is_integer" ["thing"] [] (spIsInteger K) := ok_is_integer T
  have C_lowest : CallOk P w K mg base CX0 1 "lowest" ["top", "bottom"] [] spLowest := ok_lowest T
  refine def_ok (st := s_kept_fraction) T 10 8 rfl rfl sc_kept_fraction (fun _ _ _ _ _ _ us hl => match us, hl with | [_], _ => rfl) (fun vs H Q E h => ?_) (fun cdv f A outer s H vs Q E hr h => ?_)
  · rcases h with ⟨a, x, rfl, _⟩ | ⟨x, t, rfl, _⟩ <;> rfl
  · refine ⟨_, PSs.nox (pss_cons (ps_if (PW.pt (pw_or (pt_not (pt_val (pe_callT C_is_list (hr.mono (by decide)) (by rfl) pass0 (pa_cons (pv 0) pa_nil)))) (pw_or (pt_cmpR op_ne (pe_callB (id := "len") (call_lenK (K := K) rfl) (by rfl) T.f_len (by decide +kernel) (pa_cons (pv 0) pa_nil)) (pe_int) (nomark _)) (pw_or (pt_not (pt_val (pe_callB (id := "all") (cr_allK (K := K) rfl rfl) (by rfl) T.f_all (by decide +kernel) (pa_cons (pe_lc (own := [("part", 1)]) (by rfl) sc_kept_fraction.nd (pi_tupK (K := K) rfl (pv 0)) (blkOk_by (own := [("part", 1)]) (N := ["thing", "part"]) (sc := defScope (topS 22)) (by decide +kernel)) (fun _ _ _ _ _ => (pg_name (i := 1) sc_kept_fraction.nd rfl (.inl rfl))) (fun _ _ _ _ _ => pts_nil) (fun _ _ _ _ _ => (pe_callT C_is_integer (hr.mono (by decide)) (by rfl) pass0 (pa_cons (pv 1) pa_nil)))) pa_nil)))) (pw_or1 (pt_cmpR op_lt (pe_ix (ix_tupK (K := K) rfl) (pv 0) (pe_int) (fun _ _ => rfl)) (pe_int) (nomark _))))))) (pss_one (ps_ret (pe_non))) pss_nil)
      (pss_one (ps_ret (pe_callT C_lowest (hr.mono (by decide)) (by rfl) pass0 (pa_cons (pe_ix (ix_tupK (K := K) rfl) (pv 0) (pe_int) (fun _ _ => rfl)) (pa_cons (pe_ix (ix_tupK (K := K) rfl) (pv 0) (pe_int) (fun _ _ => rfl)) pa_nil)))))), ?_⟩
    rcases h with ⟨a, ⟨x, y⟩, rfl, ha, ⟨z1, z2, z3⟩, q⟩ | ⟨x, t, rfl, ty, n1, n2, q⟩
    · refine ⟨_, rfl, _, "tuple", rfl, tyb_tup ha, fun H1 s1 => ⟨_, rfl, ?_⟩⟩
      have h1 := s1 _ _ ha
      refine ⟨_, rfl, _, 2, rfl, .inr ⟨_, .of h1, rfl⟩, rfl, _, rfl, ?_⟩
      refine ⟨_, rfl, a, rfl, ⟨_, .of h1⟩, ?_⟩
      refine fun D nD => lcw (us := [x, y]) (fun _ v u => v = .int u) (fun _ v u => v = .bl u) (fun _ => true) (fun _ => true) (wk_tup (.of h1) (.cons rfl (.cons rfl .nil)) fun _ _ _ _ _ h => h) (fun _ _ _ _ _ h => h) (by show 2 ≤ 1000000; decide) ?_ nD ?_
      · rintro i _ u H2 QF QT hu rfl s2 _ qt
        exact ⟨rfl, _, rfl, _, "int", rfl, tyb_int, qt rfl _ H2 (.refl _) rfl⟩
      · intro ys H2 s2 hD hP
        have e : ys = [V.bl true, V.bl true] := by
          have := pr_eq V.bl hP
          simpa using this
        subst e
        refine ⟨D, [true, true], rfl, .of hD, _, rfl, ?_⟩
        have h2 := s2 _ _ h1
        refine ⟨_, rfl, a, _, 1, _, rfl, rfl, .of h2, rfl, _, _, rfl, rfl, _, rfl, ?_⟩
        have e1 : decide (y < 1) = false := by simp; omega
        rw [e1]
        refine ⟨_, rfl, a, _, 0, _, rfl, rfl, .of h2, rfl, _, rfl, a, _, 1, _, rfl, rfl, .of h2, rfl, ?_⟩
        exact ⟨x, y, rfl, z3, Nat.lt_of_lt_of_le z2 (Nat.pow_le_pow_right (by decide) (by decide)), fun p H3 s3 n3 => q p H3 ((s1.trans s2).trans s3) ((s1.trans s2).free n3)⟩
    · refine ⟨_, rfl, _, t, rfl, ty, fun H1 s1 => ⟨_, rfl, ?_⟩⟩
      have e : (t == "list" || t == "tuple") = false := by simp [n1, n2]
      rw [e]
      exact q _ s1
/-- a dict of fractions, its keys the hands in their order -/
def RdK (H : Hp) (a : Addr) (hs : List Nat) (fr : Nat → Int × Int) : Prop := ∃ v : Nat → V, H a = some (.dK (dh hs v)) ∧ ∀ h ∈ hs, ∃ b, v h = .ref b ∧ FrAt H b (fr h)
theorem RdK.same {H H' : Hp} {a : Addr} {hs : List Nat} {fr : Nat → Int × Int} (s : Same H H') (h : RdK H a hs fr) : RdK H' a hs fr :=
  let ⟨v, e, k⟩ := h; ⟨v, s _ _ e, fun h hh => let ⟨b, e1, e2⟩ := k h hh; ⟨b, e1, s _ _ e2⟩⟩
theorem RdK.get {H : Hp} {a : Addr} {hs : List Nat} {fr : Nat → Int × Int} {h : Nat} (r : RdK H a hs fr) (hh : h ∈ hs) : ∃ b, DGet H a (hv h) (some (.ref b)) ∧ FrAt H b (fr h) := by
  obtain ⟨v, e, k⟩ := r
  obtain ⟨b, e1, e2⟩ := k h hh
  exact ⟨b, e1 ▸ get_dh (.of e) hh, e2⟩
/-- data of no greater nesting than n -/
def Sh (n : Nat) (d : PyData) : Prop := d.canLay0 = true ∧ d.depth ≤ n
theorem Sh.shaped {n : Nat} {d : PyData} (h : Sh n d) (hn : n ≤ 64) : SeqAt.shaped d = true := by
  show (d.canLay0 && decide (d.depth ≤ 64)) = true
  rw [h.1, decide_eq_true (Nat.le_trans h.2 hn)]
  rfl
theorem sh_all {n : Nat} : ∀ {ds : List PyData}, (∀ d ∈ ds, Sh n d) → PyData.canLayAll0 ds = true ∧ PyData.depthAll ds ≤ n
  | [], _ => ⟨by simp [PyData.canLayAll0], by simp [PyData.depthAll]⟩
  | d :: ds, h => by
    obtain ⟨a, b⟩ := sh_all (ds := ds) fun x hx => h x (List.mem_cons_of_mem _ hx)
    obtain ⟨c, e⟩ := h d List.mem_cons_self
    exact ⟨by simp [PyData.canLayAll0, c, a], by simp only [PyData.depthAll]; omega⟩
theorem sh_list {n : Nat} {ds : List PyData} (h : ∀ d ∈ ds, Sh n d) : Sh (n + 1) (.list ds) := by
  obtain ⟨a, b⟩ := sh_all h
  exact ⟨by simp only [PyData.canLay0]; exact a, by simp only [PyData.depth]; omega⟩
theorem sh_tup {n : Nat} {ds : List PyData} (h : ∀ d ∈ ds, Sh n d) : Sh (n + 1) (.tuple ds) := by
  obtain ⟨a, b⟩ := sh_all h
  exact ⟨by simp only [PyData.canLay0]; exact a, by simp only [PyData.depth]; omega⟩
theorem sh_non : Sh 0 .none := ⟨by simp [PyData.canLay0], by simp [PyData.depth]⟩
theorem sh_int {i : Int} : Sh 0 (.int i) := ⟨by simp [PyData.canLay0], by simp [PyData.depth]⟩
theorem sh_bl {b : Bool} : Sh 0 (.bool b) := ⟨by simp [PyData.canLay0], by simp [PyData.depth]⟩
theorem Sh.mono {n m : Nat} {d : PyData} (h : Sh n d) (hn : n ≤ m) : Sh m d := ⟨h.1, Nat.le_trans h.2 hn⟩
/-- a pair of ints as data -/
def dFr (x : Int × Int) : PyData := .tuple [.int x.1, .int x.2]
theorem dp_fr {H : Hp} {a : Addr} {x : Int × Int} (h : FrAt H a x) : Dp K H (.ref a) (dFr x) := .tup (.of h) (.cons (.int _) (.cons (.int _) .nil))
theorem sh_fr {x : Int × Int} : Sh 1 (dFr x) := sh_tup fun d hd => by
  simp at hd
  rcases hd with rfl | rfl <;> exact sh_int
theorem dpAll_map {α : Type} {H : Hp} {f : α → V} {d : α → PyData} : ∀ {l : List α}, (∀ x ∈ l, Dp K H (f x) (d x)) → DpAll K H (l.map f) (l.map d)
  | [], _ => .nil
  | x :: l, h => .cons (h x List.mem_cons_self) (dpAll_map fun y hy => h y (List.mem_cons_of_mem _ hy))
def spKeptReading (K : PySem.W.Frag) : Sp := fun vs H Q _ => ∃ (x : V) (l : Addr) (hs : List Nat), vs = [x, .ref l] ∧ H l = some (.lst (hs.map hv)) ∧ hs.Nodup ∧ 0 < hs.length ∧ hs.length ≤ 6 ∧
  ((∃ (a : Addr) (fr : Nat → Int × Int), x = .ref a ∧ RdK H a hs fr ∧ (∀ h ∈ hs, Sz 2000 (fr h)) ∧ ∀ p H', Same H H' → H p = none → RdK H' p hs (fun h => lowF (fr h).1 (fr h).2) → Q (.ref p) H') ∨
   ((∀ H', Same H H' → Q .non H') ∧ ((∃ t, Tyb K H x t ∧ t ≠ "dict") ∨ (∃ a, x = .ref a ∧ H a = some (.dK [])) ∨ ∃ a, x = .ref a ∧ H a = some (.dK (dh hs fun _ => .int 1)))))
theorem eqv_fr (x : Int × Int) : PyData.eqv (dFr x) .none = false := by simp [dFr, PyData.eqv]
theorem ok_kept_reading (T : Txt K mg) : CallOk P w K mg base CX0 3 "kept_reading" ["thing", "hands"] [] (spKeptReading K) := by
  have C_kept_fraction : CallOk P w K mg base CX0 2 "kept_fraction" ["thing"] [] (spKeptFraction K) := ok_kept_fraction T
  refine def_ok (st := s_kept_reading) T 11 9 rfl rfl sc_kept_reading (fun _ _ _ _ _ _ us hl => match us, hl with | [_, _], _ => rfl) (fun vs H Q E h => ?_) (fun cdv f A outer s H vs Q E hr h => ?_)
  · obtain ⟨x, l, hs, rfl, _⟩ := h
    rfl
  · refine ⟨_, PSs.nox (pss_cons (ps_if (PW.pt (pw_or (pt_not (pt_val (pe_callB (id := "isinstance") (call_isiK1 (K := K) rfl) (by rfl) T.f_isinstance (by decide +kernel) (pa_cons (pv 0) (pa_cons (pe_bltn (v := .ty "dict") (by rfl) T.f_dict (by decide +kernel) rfl) pa_nil))))) (pw_or (pt_cmpR op_ne (pe_callB (id := "len") call_lenD (by rfl) T.f_len (by decide +kernel) (pa_cons (pv 0) pa_nil)) (pe_callB (id := "len") (call_lenK (K := K) rfl) (by rfl) T.f_len (by decide +kernel) (pa_cons (pv 1) pa_nil)) (nomark _)) (pw_or1 (pt_not (pt_val (pe_callB (id := "all") (cr_allK (K := K) rfl rfl) (by rfl) T.f_all (by decide +kernel) (pa_cons (pe_lc (own := [("hand", 3)]) (by rfl) sc_kept_reading.nd (pi_listK (K := K) rfl (pv 1)) (blkOk_by (own := [("hand", 3)]) (N := ["thing", "hands", "found", "hand"]) (sc := defScope (topS 23)) (by decide +kernel)) (fun _ _ _ _ _ => (pg_name (i := 3) sc_kept_reading.nd rfl (.inl rfl))) (fun _ _ _ _ _ => pts_nil) (fun _ _ _ _ _ => (pe_cmp (pc_din (hu_of hr) (pv 3) (pv 0))))) pa_nil)))))))) (pss_one (ps_ret (pe_non))) pss_nil)
      (pss_cons (ps_setDcA (.dK []) (.inl rfl) (hu_of hr) (i := 2) (own := [("hand", 3)]) (by rfl) sc_kept_reading.nd rfl rfl (sw_dict rfl rfl rfl (by decide +kernel)) (pi_listK (K := K) rfl (pv 1)) (blkOk_by (own := [("hand", 3)]) (N := ["thing", "hands", "found", "hand"]) (sc := defScope (topS 23)) (by decide +kernel)) (fun _ _ _ _ _ => (pg_name (i := 3) sc_kept_reading.nd rfl (.inl rfl))) (fun _ _ _ _ _ => pts_nil) (fun _ _ _ _ _ => (pv 3)) (fun _ _ _ _ _ => (pe_callT C_kept_fraction (hr.mono (by decide)) (by rfl) pass0 (pa_cons (pe_dget (hu_of hr) (pv 0) (pv 3) (fun _ _ => rfl)) pa_nil))))
      (pss_one (ps_ret (pe_ifExp (pt_cmpR (op_inDK (K := K) rfl (deep_of hr)) (pe_non) (pe_listVals rfl (pv 2) (by rfl) T.f_list (by decide +kernel)) (by rfl)) (pe_non) (pv 2)))))), ?_⟩
    obtain ⟨x, l, hs, rfl, hl, hd, h0, h6, h⟩ := h
    have h' : (∃ (a : Addr) (v : Nat → V), x = .ref a ∧ H a = some (.dK (dh hs v)) ∧ ((∃ fr : Nat → Int × Int, (∀ h ∈ hs, ∃ b, v h = .ref b ∧ FrAt H b (fr h)) ∧ (∀ h ∈ hs, Sz 2000 (fr h)) ∧ ∀ p H', Same H H' → H p = none → RdK H' p hs (fun h => lowF (fr h).1 (fr h).2) → Q (.ref p) H') ∨
        ((∀ h ∈ hs, v h = .int 1) ∧ ∀ H', Same H H' → Q .non H'))) ∨ ((∀ H', Same H H' → Q .non H') ∧ ((∃ t, Tyb K H x t ∧ t ≠ "dict") ∨ ∃ a, x = .ref a ∧ H a = some (.dK []))) := by
      rcases h with ⟨a, fr, e, ⟨v, e1, e2⟩, z, q⟩ | ⟨q, h | h | ⟨a, e, ha⟩⟩
      · exact .inl ⟨a, v, e, e1, .inl ⟨fr, e2, z, q⟩⟩
      · exact .inr ⟨q, .inl h⟩
      · exact .inr ⟨q, .inr h⟩
      · exact .inl ⟨a, _, e, ha, .inr ⟨fun _ _ => rfl, q⟩⟩
    clear h
    rcases h' with ⟨a, v, rfl, ha, h⟩ | ⟨q, ⟨t, ty, nt⟩ | ⟨a, rfl, ha⟩⟩
    · refine ⟨_, rfl, _, _, _, _, _, rfl, .ty "dict", (tyb_dK ha).1, kit1 (by decide) (by decide), _, rfl, ?_⟩
      refine ⟨_, rfl, a, _, rfl, ha, _, rfl, _, _, rfl, .inl ⟨_, .of hl, rfl⟩, rfl, _, rfl, ?_⟩
      have e1 : (!decide (V.int ((dh hs v).length : Nat) = V.int ((hs.map hv).length : Nat))) = false := by simp
      rw [e1]
      refine ⟨_, rfl, l, rfl, ⟨_, .of hl⟩, fun D nD => ?_⟩
      refine lcw (us := hs) (fun _ v u => v = hv u) (fun _ v u => v = .bl u) (fun _ => true) (fun _ => true) (wk_hands (.of hl)) (fun _ _ _ _ _ h => h) (Nat.le_trans h6 (by decide)) ?_ nD ?_
      · rintro i _ u H2 QF QT hu rfl s2 _ qt
        exact ⟨rfl, _, rfl, _, rfl, a, some (v u), rfl, get_dh (.of (s2 _ _ ha)) (mem_of i hu), qt rfl _ H2 (.refl _) rfl⟩
      · intro ys H2 s2 hD hP
        have e : ys = (hs.map fun _ => true).map V.bl := by
          rw [filter_all] at hP
          exact pr_eq V.bl hP
        subst e
        refine ⟨D, _, rfl, .of hD, _, rfl, ?_⟩
        have e2 : (hs.map fun _ => true).all id = true := by simp
        rw [e2]
        refine ⟨_, rfl, l, rfl, ⟨_, .of (s2 _ _ hl)⟩, fun F nF => ?_⟩
        have h2 := s2 _ _ ha
        rcases h with ⟨fr, hfr, hsz, q⟩ | ⟨h1, q⟩
        · refine dcw (hs := hs) (fun H v h => ∃ b, v = .ref b ∧ FrAt H b (lowF (fr h).1 (fr h).2)) (wk_hands (.of (s2 _ _ hl))) hd (by omega) (fun H H' v u k ⟨b, e1, e2⟩ => ⟨b, e1, k _ _ e2⟩) ?_ nF ?_
          · intro h hh H3 Nx s3 k
            obtain ⟨b, e1, e2⟩ := hfr h hh
            refine ⟨rfl, _, rfl, _, rfl, _, rfl, a, v h, rfl, get_dh (.of (s3 _ _ h2)) hh, ?_⟩
            exact .inl ⟨b, fr h, by rw [e1]; rfl, s3 _ _ (s2 _ _ e2), hsz h hh, fun p H' s' n' f' => k _ _ s' ⟨p, rfl, f'⟩⟩
          · intro u H3 s3 hF hu
            refine ⟨_, rfl, F, _, rfl, hF, fun L nL => ?_⟩
            have sL := same_new (o := .lst ((dh hs u).map (·.2))) nL
            have eL : (dh hs u).map (·.2) = hs.map u := by rw [List.map_map]; rfl
            refine ⟨.none, hs.map fun h => dFr (lowF (fr h).1 (fr h).2), .non, .lst (by rw [← eL]; exact .of upd_same) (dpAll_map fun h hh => ?_), sh_non.shaped (by decide), (sh_list (n := 1) fun d hd => ?_).shaped (by decide), _, rfl, ?_⟩
            · obtain ⟨b, e1, e2⟩ := hu h hh
              rw [e1]
              exact dp_fr (sL _ _ e2)
            · obtain ⟨h, _, rfl⟩ := List.mem_map.mp hd
              exact sh_fr
            · have e3 : ((hs.map fun h => dFr (lowF (fr h).1 (fr h).2)).any fun z => PyData.eqv z .none) = false := by
                rw [List.any_eq_false]
                intro d hd
                obtain ⟨h, _, rfl⟩ := List.mem_map.mp hd
                rw [eqv_fr]
                decide
              rw [e3]
              refine ⟨_, rfl, q _ _ ((s2.trans s3).trans sL) (s2.free nF) ?_⟩
              exact RdK.same sL ⟨u, hF, hu⟩
        · refine dcw (hs := hs) (fun H v h => v = .non) (wk_hands (.of (s2 _ _ hl))) hd (by omega) (fun H H' v u k h => h) ?_ nF ?_
          · intro h hh H3 Nx s3 k
            refine ⟨rfl, _, rfl, _, rfl, _, rfl, a, v h, rfl, get_dh (.of (s3 _ _ h2)) hh, ?_⟩
            exact .inr ⟨_, "int", by rw [h1 h hh]; rfl, tyb_int, by decide, by decide, fun H' s' => k _ _ s' rfl⟩
          · intro u H3 s3 hF hu
            refine ⟨_, rfl, F, _, rfl, hF, fun L nL => ?_⟩
            have sL := same_new (o := .lst ((dh hs u).map (·.2))) nL
            have eL : (dh hs u).map (·.2) = hs.map u := by rw [List.map_map]; rfl
            refine ⟨.none, hs.map fun h => .none, .non, .lst (by rw [← eL]; exact .of upd_same) (dpAll_map fun h hh => ?_), sh_non.shaped (by decide), (sh_list (n := 0) fun d hd => ?_).shaped (by decide), _, rfl, ?_⟩
            · rw [hu h hh]
              exact .non
            · obtain ⟨h, _, rfl⟩ := List.mem_map.mp hd
              exact sh_non
            · have e3 : ((hs.map fun h => PyData.none).any fun z => PyData.eqv z .none) = true := by
                rw [List.any_eq_true]
                obtain ⟨h, hh⟩ := List.exists_mem_of_length_pos h0
                exact ⟨.none, List.mem_map.mpr ⟨h, hh, rfl⟩, by simp [PyData.eqv]⟩
              rw [e3]
              exact q _ ((s2.trans s3).trans sL)
    · refine ⟨_, rfl, _, _, _, _, _, rfl, .ty "dict", ty.1, kit1 ty.2 (by decide), _, rfl, ?_⟩
      have e : kitb t "dict" = false := by
        have : ∀ t ∈ tys, t ≠ "dict" → kitb t "dict" = false := by decide +kernel
        exact this t ty.2 nt
      rw [e]
      exact q _ (.refl _)
    · refine ⟨_, rfl, _, _, _, _, _, rfl, .ty "dict", (tyb_dK ha).1, kit1 (by decide) (by decide), _, rfl, ?_⟩
      refine ⟨_, rfl, a, _, rfl, ha, _, rfl, _, _, rfl, .inl ⟨_, .of hl, rfl⟩, rfl, _, rfl, ?_⟩
      have e1 : (!decide (V.int (([] : List (Key × V)).length : Nat) = V.int ((hs.map hv).length : Nat))) = true := by
        simp
        omega
      rw [e1]
      exact q _ (.refl _)
end
end K80

set_option maxHeartbeats 4000000
/-! sorted(..) of a list of pairs of hands -/
namespace K80
open PySem PySem.Spec L2
open PyProof.Rows hiding St
/-- pairs of hands in order -/
def pLe (p q : Nat × Nat) : Prop := p.1 < q.1 ∨ (p.1 = q.1 ∧ p.2 ≤ q.2)
def shP : Nat → Bool := fun _ => true
abbrev kyP (i j : Nat) : List (Int ⊕ List Nat) := [.inr (nm i).cps.toList, .inr (nm j).cps.toList]
theorem strBlt (i j : Nat) : strKind.blt (nm i).cps.toList (nm j).cps.toList = decide (i < j) := by
  show decide ((nm i).cps.toList < (nm j).cps.toList) = _
  simp only [nm_lt]
theorem blt_kyP (i j k l : Nat) : PyProof.Rows.lexLt PyProof.Rows.itemOrd (kyP i j) (kyP k l) = (decide (i < k) || (!decide (k < i) && decide (j < l))) := by
  show (strKind.blt (nm i).cps.toList (nm k).cps.toList || (!strKind.blt (nm k).cps.toList (nm i).cps.toList && (strKind.blt (nm j).cps.toList (nm l).cps.toList || (!strKind.blt (nm l).cps.toList (nm j).cps.toList && false)))) = _
  simp only [strBlt, Bool.and_false, Bool.or_false, nm_lt]
theorem kle_kyP {i j k l : Nat} (h : PyProof.Rows.lexLt PyProof.Rows.itemOrd (kyP k l) (kyP i j) = false) : pLe (i, j) (k, l) := by
  have h : (decide (k < i) || (!decide (i < k) && decide (l < j))) = false := by rw [← blt_kyP]; exact h
  have h1 := Bool.or_eq_false_iff.mp h
  have h2 : ¬ k < i := of_decide_eq_false h1.1
  by_cases c : i < k
  · exact .inl c
  · refine .inr ⟨by show i = k; omega, ?_⟩
    have h3 := h1.2
    rw [decide_eq_false c] at h3
    have : ¬ l < j := by simpa using h3
    show j ≤ l
    omega
theorem keyed_of {v : Value} {l : List Value} {e : Keyed} (h : e ∈ l.zip l) : e.1 = e.2 ∧ e.1 ∈ l := by
  obtain ⟨i, hi⟩ := List.mem_iff_getElem?.mp h
  rw [List.getElem?_zip_eq_some] at hi
  have : some e.1 = some e.2 := hi.1.symm.trans hi.2
  exact ⟨by injection this, List.mem_of_getElem? hi.1⟩
section
variable {X : Cx}
def rSortedN (K : PySem.W.Frag) : List V → Hp → VK → Prop := fun vs H Q => ∃ (a : Addr) (bs : List Addr) (ks : List (Nat × Nat)), vs = [V.ref a] ∧ SqL K H a (bs.map V.ref) ∧ Paired (fun b k => PrT H b k.1 k.2) bs ks ∧
  ∀ (bs' : List Addr) (ks' : List (Nat × Nat)) (p : Addr), Paired (fun b k => PrT H b k.1 k.2) bs' ks' → ks'.Perm ks → ks'.Pairwise pLe → H p = none → Q (.ref p) (upd H p (.lst (bs'.map V.ref)))
theorem perm_pair {α β : Type} {F : α → β → Prop} {l m : List α} (p : l.Perm m) : ∀ {ks : List β}, Paired F m ks → ∃ ks', Paired F l ks' ∧ ks'.Perm ks := by
  induction p with
  | nil => intro ks h; cases h; exact ⟨[], .nil, .nil⟩
  | cons x p ih =>
    intro ks h
    cases h with
    | cons h t =>
      obtain ⟨k, h1, h2⟩ := ih t
      exact ⟨_ :: k, .cons h h1, h2.cons _⟩
  | swap x y l =>
    intro ks h
    cases h with
    | cons h t =>
      cases t with
      | cons h' t => exact ⟨_ :: _ :: _, .cons h' (.cons h t), .swap _ _ _⟩
  | trans p1 p2 ih1 ih2 =>
    intro ks h
    obtain ⟨k, h1, h2⟩ := ih2 h
    obtain ⟨k', h3, h4⟩ := ih1 h1
    exact ⟨k', h3, h4.trans h2⟩
theorem pr_mapL {α β γ : Type} {F : γ → β → Prop} (f : α → γ) {l : List α} {m : List β} (h : Paired (fun a b => F (f a) b) l m) : Paired F (l.map f) m := by
  induction h with
  | nil => exact .nil
  | cons h _ ih => exact .cons h ih
theorem pr_unmapL {α β γ : Type} {F : γ → β → Prop} (f : α → γ) : ∀ {l : List α} {m : List β}, Paired F (l.map f) m → Paired (fun a b => F (f a) b) l m
  | [], _, h => by cases h; exact .nil
  | a :: l, _, h => by cases h with | cons h t => exact .cons h (pr_unmapL f t)
theorem cr_sortedN : CallR X (.builtin "sorted") (rSortedN X.K) := by
  intro pins s σ H vs us Q I r h
  obtain ⟨a, bs, ks, rfl, hs, hP, q⟩ := h
  obtain ⟨its, rv, hl, hz⟩ := I.list hs
  rw [Vals.ref1 r]
  have ei : its = bs.map Value.ref := refs_at rv
  -- each tuple's key
  have key : ∀ (b : Addr) (k : Nat × Nat), PrT H b k.1 k.2 → G.tupKeyC s.heap shP (.ref b) = some (kyP k.1 k.2) ∧ ∃ f, PyProof.Rows.TupOf s.heap shP (.ref b) f := by
    intro b k hb
    obtain ⟨_, its2, r2, o, ho, hc, n, hd⟩ := I.hok _ _ hb
    obtain ⟨u1, u2, rfl, ⟨t1, rfl⟩, t2, rfl⟩ := vals2 r2
    exact ⟨G.tupKeyC_of ho hc hd rfl, _, b, o, _, n, rfl, ho, hc, hd, rfl, fun e => (by cases e), fun _ => ⟨_, _, rfl⟩⟩
  have ht : ∃ fs, PyProof.Rows.TupsOf s.heap shP its fs := by
    rw [ei]
    clear q rv hl hs ei r hz
    induction hP with
    | nil => exact ⟨[], .nil⟩
    | cons h _ ih =>
      obtain ⟨fs, hf⟩ := ih
      obtain ⟨f, h1⟩ := (key _ _ h).2
      exact ⟨f :: fs, .cons h1 hf⟩
  obtain ⟨fs, ht⟩ := ht
  refine G.sorted_tups (shape := shP) hl.isList ht (fun v hv => ?_) (by rw [← rv.length]; exact hz) fun st' hp hs' _ => ?_
  · rw [ei] at hv
    obtain ⟨b, hb, rfl⟩ := List.mem_map.mp hv
    obtain ⟨i, hi⟩ := List.mem_iff_getElem?.mp hb
    obtain ⟨k, _, hk⟩ := pr_getL hP hi
    exact ⟨_, (key b k hk).1⟩
  · have hp2 : (arrOf st').toList.Perm (its.zip its) := by
      have e := Array.perm_iff_toList_perm.mp hp
      rw [pairsOf_toList] at e
      exact e
    have hm : ∀ e ∈ (arrOf st').toList, e.1 = e.2 ∧ e.1 ∈ its := fun e he => keyed_of (v := e.1) (hp2.mem_iff.mp he)
    have hout : ((arrOf st').map (·.2)).toList = (arrOf st').toList.map (·.1) := by
      rw [Array.toList_map]
      exact List.map_congr_left fun e he => (hm e he).1.symm
    have hperm : ((arrOf st').toList.map (·.1)).Perm its := by
      have := hp2.map (·.1)
      rwa [List.map_fst_zip (Nat.le_refl _)] at this
    -- the addresses
    obtain ⟨bs', eb, pb⟩ : ∃ bs' : List Addr, (arrOf st').toList.map (·.1) = bs'.map Value.ref ∧ bs'.Perm bs := by
      have gen : ∀ {l m : List Value}, l.Perm m → ∀ {bs : List Addr}, m = bs.map Value.ref → ∃ bs' : List Addr, l = bs'.map Value.ref ∧ bs'.Perm bs := by
        intro l m p
        induction p with
        | nil => intro bs e; exact ⟨[], rfl, by rw [List.map_eq_nil_iff.mp e.symm]⟩
        | cons x p ih =>
          intro bs e
          cases bs with
          | nil => cases e
          | cons b r =>
            injection e with e1 e2
            obtain ⟨l, e, p⟩ := ih e2
            exact ⟨b :: l, by rw [e, e1]; rfl, p.cons b⟩
        | swap x y l =>
          intro bs e
          match bs, e with
          | a :: b :: r, e =>
            injection e with e1 e2
            injection e2 with e2 e3
            exact ⟨b :: a :: r, by rw [e1, e2, e3]; rfl, .swap a b r⟩
        | trans p1 p2 ih1 ih2 =>
          intro bs e
          obtain ⟨l, e1, p1⟩ := ih2 e
          obtain ⟨l', e2, p2⟩ := ih1 e1
          exact ⟨l', e2, p2.trans p1⟩
      exact gen hperm ei
    obtain ⟨ks', hP', pk'⟩ := perm_pair pb hP
    have hlen : (arrOf st').size = bs'.length := by
      have := congrArg List.length eb
      simpa using this
    have srt : ks'.Pairwise pLe := by
      rw [List.pairwise_iff_getElem]
      intro i j hi hj hij
      have li := hP'.length
      have kk : ∀ n (hn : n < ks'.length), KK (G.tupKindC s.heap shP) (arrOf st') n = kyP ks'[n].1 ks'[n].2 := by
        intro n hn
        have hb' := List.getElem?_eq_getElem (l := bs') (i := n) (by omega)
        obtain ⟨k, hk1, hk2⟩ := pr_getL hP' hb'
        rw [List.getElem?_eq_getElem hn] at hk1
        cases hk1
        have ha : (arrOf st')[n]? = some (arrOf st')[n] := Array.getElem?_eq_getElem (by omega)
        have e1 : ((arrOf st').toList.map (·.1))[n]? = some ((arrOf st')[n]'(by omega)).1 := by
          rw [List.getElem?_map, Array.getElem?_toList, ha]
          rfl
        rw [eb, List.getElem?_map, hb'] at e1
        have e2 : ((arrOf st')[n]'(by omega)).1 = Value.ref bs'[n] := (Option.some.inj e1).symm
        unfold KK
        rw [ha]
        show (G.tupKeyC s.heap shP ((arrOf st')[n]'(by omega)).1).getD [] = _
        rw [e2, (key _ _ hk2).1]
        rfl
      have hsz : (pairsOf its).size = ks'.length := by rw [pairsOf_size, ← rv.length, List.length_map, ← pb.length_eq, li]
      have := hs' i j (by omega) (by omega)
      rw [kk i hi, kk j hj] at this
      exact kle_kyP this
    obtain ⟨ep, he'⟩ := PyProof.Rows.sortedAll_at s.heap its ((arrOf st').map (·.2))
    have ho : ((arrOf st').map (·.2)).toList = bs'.map Value.ref := hout.trans eb
    refine ⟨.ref _, upd H (s.heap.objs.size + 1) (.lst (bs'.map V.ref)), I.laid (t' := s.toks) (fun _ _ => PyProof.Rows.sortedAll_old) (Nat.le_succ _) ⟨?_, ((arrOf st').map (·.2)).toList, ep, by rw [ho]; exact vals_refs bs', by rw [Array.toArray_toList]; exact he'⟩, rfl, q bs' ks' _ hP' pk' srt (I.hok.fresh (Nat.le_succ _))⟩
    have : (bs'.map V.ref).length = (bs.map V.ref).length := by rw [List.length_map, List.length_map]; exact pb.length_eq
    rw [this]
    exact hz
end
end K80

set_option maxHeartbeats 4000000
/-! loops that leave what stands, locked dicts, dicts keyed by pairs in their order -/
namespace K80
open PySem PySem.Spec L2
open PyProof.Rows hiding St
section
variable {α : Type} {J : It} {Hb H1 : Hp} {us : List α} {A : Hp → V → α → Prop} {g : TG} {tb : TS} {D : Ends} {σ : L2.St}
theorem for_wk (wk : Wk J Hb us A) (Pv : Nat → L2.St → Hp → Prop) (h0 : Pv 0 σ H1) (hm : ∀ i σ H, Pv i σ H → Same Hb H)
    (hs : ∀ i u x σ H0 H, us[i]? = some u → Pv i σ H0 → Same H0 H → A H x u → g x σ H fun σ2 H2 => tb { D with nx := Pv (i + 1), ct := Pv (i + 1), bk := D.nx } σ2 H2) (hd : ∀ σ H, Pv us.length σ H → D.nx σ H) :
    ∃ W : Nat → Nat → L2.St → Hp → Prop, (∃ m, W 0 m σ H1) ∧ ∀ i m σ H, W i m σ H →
      (J.stop i H ∧ D.nx σ H) ∨ (J.go i H ∧ ∃ N : L2.St → Hp → Prop, (∀ σ' H', N σ' H' → ∃ m', m' < m ∧ W (i + 1) m' σ' H') ∧ ∀ x H', J.yld i H x H' → g x σ H' fun σ2 H2 => tb { D with nx := N, ct := N, bk := D.nx } σ2 H2) := by
  refine ⟨fun i m σ H => i + m = us.length ∧ Pv i σ H, ⟨us.length, by omega, h0⟩, fun i m σ H ⟨e, hP⟩ => ?_⟩
  have s := hm i σ H hP
  by_cases hi : i < us.length
  · have hu := List.getElem?_eq_getElem hi
    obtain ⟨go, yl⟩ := wk.1 i _ H hu s
    refine .inr ⟨go, Pv (i + 1), fun σ' H' hn => ⟨m - 1, by omega, by omega, hn⟩, fun x H' hy => ?_⟩
    obtain ⟨s', ha⟩ := yl x H' hy
    exact hs i _ x σ H H' hu hP s' ha
  · have : i = us.length := by omega
    subst this
    exact .inl ⟨wk.2 H s, hd σ H hP⟩
end
theorem unlock {H H' : Hp} {d : Addr} {f u : HO} (s : Same (upd H d f) H') (e : H d = some u) : Same H (upd H' d u) := fun b o h => by
  by_cases c : b = d
  · subst c
    rw [upd_same]
    rw [e] at h
    exact h
  · rw [upd_ne c]
    exact s _ _ (by rw [upd_ne c]; exact h)
theorem locked {H : Hp} {d b : Addr} {f u o : HO} (e : H d = some u) (h : H b = some o) (n : o ≠ u) : (upd H d f) b = some o := by
  rw [upd_ne (ne_of h e n)]
  exact h
/-! ### dicts keyed by pairs of hands, in their order -/
abbrev dt (ks : List (Nat × Nat)) (v : Nat × Nat → V) : List (List Key × V) := ks.map fun k => (pk k.1 k.2, v k)
theorem pk_eq' {k l : Nat × Nat} : pk k.1 k.2 = pk l.1 l.2 ↔ k = l := ⟨fun e => Prod.ext (pk_eq.mp e).1 (pk_eq.mp e).2, fun e => e ▸ rfl⟩
theorem val_dt (ks : List (Nat × Nat)) (v : Nat × Nat → V) (k : Nat × Nat) : valV (dt ks v) (pk k.1 k.2) = if k ∈ ks then some (v k) else none := by
  induction ks with
  | nil => rfl
  | cons a r ih =>
    show valV ((pk a.1 a.2, v a) :: dt r v) _ = _
    by_cases c : a = k
    · subst c
      rw [valV_pos rfl]
      simp
    · rw [valV_neg (fun e => c (pk_eq'.mp e)), ih]
      have : ¬ k = a := fun e => c e.symm
      simp [this]
theorem put_dt_new {l : List (Nat × Nat)} {v : Nat × Nat → V} {k : Nat × Nat} (y : V) (hk : k ∉ l) : putK (dt l v) (pk k.1 k.2) y = dt (l ++ [k]) fun x => if x = k then y else v x := by
  rw [putK_new _ (by rw [val_dt, if_neg hk])]
  show dt l v ++ [(pk k.1 k.2, y)] = (l ++ [k]).map _
  rw [List.map_append]
  congr 1
  · apply List.map_congr_left
    intro x hx
    have : ¬ x = k := fun e => hk (e ▸ hx)
    simp only [if_neg this]
  · simp
theorem get_dt {H : Hp} {a b : Addr} {ks : List (Nat × Nat)} {v : Nat × Nat → V} {k : Nat × Nat} (e : Rd H a (.dT (dt ks v))) (eb : PrT H b k.1 k.2) : DGet H a (.ref b) (if k ∈ ks then some (v k) else none) :=
  .inr ⟨_, pk k.1 k.2, b, e, rfl, eb, (val_dt ks v k).symm⟩
abbrev IsPr (H : Hp) (v : V) (k : Nat × Nat) : Prop := ∃ q, v = .ref q ∧ PrT H q k.1 k.2
theorem wk_keysP {H1 : Hp} {a : Addr} {o : Obj} {ks : List (Nat × Nat)} {v : Nat × Nat → V} (h : H1 a = some (.frz o (.dT (dt ks v)))) : Wk (Itkt a o (dt ks v)) H1 ks IsPr := by
  have w := wk_keysT h
  refine ⟨fun i u H hu s => ?_, fun H s => by have := w.2 H s; rwa [List.length_map] at this⟩
  have e : (dt ks v)[i]? = some (pk u.1 u.2, v u) := by rw [List.getElem?_map, hu]; rfl
  exact w.1 i _ H e s
theorem dcwT {J : It} {H1 : Hp} {g : TG} {tt : TT} {tk tv : TE} {vs : List Nat} {σ : L2.St} {D : Addr} {Qd : Hp → Prop} {ks : List (Nat × Nat)} (B : Hp → V → Nat × Nat → Prop) (wk : Wk J H1 ks IsPr) (hd : ks.Nodup) (hz : ks.length ≤ 1000) (sB : ∀ H H' v u, KeepT H H' → B H v u → B H' v u)
    (turn : ∀ k ∈ ks, ∀ (q : Addr) (H : Hp) (Nx : Hp → Prop), Same H1 H → PrT H q k.1 k.2 → (∀ v H', Same H H' → B H' v k → ∃ H3, DPut H' D (.ref q) v H3 ∧ Nx H3) →
      g (.ref q) (wipe σ vs) H fun σ2 H2 => wipe σ2 vs = wipe σ vs ∧ tt σ2 H2 fun b H3 => if b = true then tPutA D tk tv σ2 H3 Nx else Nx H3)
    (nD : H1 D = none) (fin : ∀ v H', Same H1 H' → H' D = some (.dT (dt ks v)) → (∀ k ∈ ks, B H' (v k) k) → Qd H') :
    ∃ W : Nat → Nat → Hp → Prop, (∃ m, W 0 m (upd H1 D (.dT []))) ∧ ∀ i m H, W i m H →
      (J.stop i H ∧ Qd H) ∨ (J.go i H ∧ ∃ Nx : Hp → Prop, (∀ H', Nx H' → ∃ m', m' < m ∧ W (i + 1) m' H') ∧ ∀ x H', J.yld i H x H' → g x (wipe σ vs) H' fun σ2 H2 => wipe σ2 vs = wipe σ vs ∧ tt σ2 H2 fun b H3 => if b = true then tPutA D tk tv σ2 H3 Nx else Nx H3) := by
  let Pv : Nat → Hp → Prop := fun i H => Same H1 H ∧ ∃ v, H D = some (.dT (dt (ks.take i) v)) ∧ ∀ k ∈ ks.take i, B H (v k) k
  refine ⟨fun i m H => i + m = ks.length ∧ Pv i H, ⟨ks.length, by omega, same_new nD, fun _ => .non, upd_same, fun h hh => by simp at hh⟩, fun i m H ⟨e, s, v, hD, hP⟩ => ?_⟩
  by_cases hi : i < ks.length
  · have hu := List.getElem?_eq_getElem hi
    obtain ⟨go, yl⟩ := wk.1 i _ H hu s
    refine .inr ⟨go, Pv (i + 1), fun H' hn => ⟨m - 1, by omega, by omega, hn⟩, fun x H0 hy => ?_⟩
    obtain ⟨s0, q, hx, hq⟩ := yl x H0 hy
    subst hx
    refine turn ks[i] (List.getElem_mem hi) q H0 _ (s.trans s0) hq fun y H' s' hB => ?_
    have hD' : H' D = some (.dT (dt (ks.take i) v)) := s' _ _ (s0 _ _ hD)
    have hnot : ks[i] ∉ ks.take i := fun c => by
      obtain ⟨j, hj⟩ := List.mem_iff_getElem?.mp c
      rw [List.getElem?_take] at hj
      split at hj
      · rename_i ji
        have := (List.getElem?_inj hi hd).mp (hu.trans hj.symm)
        omega
      · cases hj
    have kt : KeepT H' (upd H' D (.dT (dt (ks.take i ++ [ks[i]]) fun x => if x = ks[i] then y else v x))) := keepT_upd hD' (fun _ z => by cases z)
    refine ⟨_, .inr ⟨_, pk ks[i].1 ks[i].2, q, hD', rfl, s' _ _ hq, ?_, rfl⟩, ?_⟩
    · rw [List.length_map, List.length_take]
      exact small1000 (by omega)
    · rw [put_dt_new y hnot]
      refine ⟨same_mut ((s.trans s0).trans s') nD, _, by rw [upd_same, take_succ' hu], fun h hh => ?_⟩
      rw [take_succ' hu] at hh
      rcases List.mem_append.mp hh with z | z
      · have : ¬ h = ks[i] := fun c => hnot (c ▸ z)
        rw [if_neg this]
        exact sB _ _ _ _ ((keepT_same (s0.trans s')).trans kt) (hP h z)
      · simp at z
        subst z
        rw [if_pos rfl]
        exact sB _ _ _ _ kt hB
  · have : i = ks.length := by omega
    subst this
    rw [List.take_length] at hD hP
    exact .inl ⟨wk.2 H s, fin v H s hD hP⟩
end K80

set_option maxHeartbeats 4000000
/-! a log's roads and letters, checked -/
namespace K80
open PySem PySem.Spec L2
open PyProof.Rows hiding St
abbrev s_are_two : Stmt := (topS 25)
theorem sc_are_two : FnScope ["thing", "hands", "hand"] ["thing", "hands"] (defScope s_are_two) := ⟨rfl, rfl, rfl, by decide +kernel, rfl, by decide +kernel, by decide +kernel⟩
abbrev s_are_bounds : Stmt := (topS 26)
theorem sc_are_bounds : FnScope ["thing"] ["thing"] (defScope s_are_bounds) := ⟨rfl, rfl, rfl, by decide +kernel, rfl, by decide +kernel, by decide +kernel⟩
abbrev s_checked_log_roads : Stmt := (topS 27)
theorem sc_checked_log_roads : FnScope ["roads", "hands", "key"] ["roads", "hands"] (defScope s_checked_log_roads) := ⟨rfl, rfl, rfl, by decide +kernel, rfl, by decide +kernel, by decide +kernel⟩
section
variable {P : Program} {w : World} {K : PySem.W.Frag} {mg : Str → Option Value} {base : Heap}
/-- a list or a tuple of the values xs -/
abbrev LoT (H : Hp) (b : Addr) (xs : List V) : Prop := H b = some (.lst xs) ∨ H b = some (.tup xs)
theorem tyb_lot {H : Hp} {b : Addr} {xs : List V} (h : LoT H b xs) : ∃ t, Tyb K H (.ref b) t ∧ (t == "list" || t == "tuple") = true := by
  rcases h with h | h
  · exact ⟨"list", tyb_lst h, by decide⟩
  · exact ⟨"tuple", tyb_tup h, by decide⟩
theorem LoT.same {H H' : Hp} {b : Addr} {xs : List V} (s : Same H H') (h : LoT H b xs) : LoT H' b xs := h.imp (s _ _) (s _ _)
theorem LoT.sq {H : Hp} {b : Addr} {xs : List V} (h : LoT H b xs) : SqL K H b xs ∨ SqT K H b xs := h.imp .of .of
theorem len_lot {H : Hp} {b : Addr} {xs : List V} (h : LoT H b xs) : LenV K (.ref b) H xs.length := by
  rcases h with h | h
  · exact .inl ⟨xs, .of h, rfl⟩
  · exact .inr ⟨xs, .of h, rfl⟩
theorem ix_lot {H : Hp} {b : Addr} {xs : List V} {i : Int} {v : V} {Q : VK} (h : LoT H b xs) (ha : atI xs i = some v) (q : Q v H) : rIx K (.ref b) (.int i) H Q := by
  rcases h with h | h
  · exact .inl ⟨b, xs, i, v, rfl, rfl, .of h, ha, q⟩
  · exact .inr (.inl ⟨b, xs, i, v, rfl, rfl, .of h, ha, q⟩)
def spAreTwo : Sp := fun vs H Q _ => ∃ (q l : Addr) (k : Nat × Nat) (hs : List Nat), vs = [.ref q, .ref l] ∧ PrT H q k.1 k.2 ∧ H l = some (.lst (hs.map hv)) ∧ k.1 ∈ hs ∧ k.2 ∈ hs ∧ k.1 ≠ k.2 ∧ (∀ h ∈ hs, h < 6) ∧ ∀ H', Same H H' → Q (.bl true) H'
theorem ok_are_two (T : Txt K mg) : CallOk P w K mg base CX0 3 "are_two" ["thing", "hands"] [] spAreTwo := by
  have C_is_list : CallOk P w K mg base CX0 1 "is_list" ["thing"] [] (spIsList K) := ok_is_list T
  have C_is_hand_of : CallOk P w K mg base CX0 2 "is_hand_of" ["thing", "hands"] [] spIsHandOf := ok_is_hand_of T
  refine def_ok (st := s_are_two) T 13 11 rfl rfl sc_are_two (fun _ _ _ _ _ _ us hl => match us, hl with | [_, _], _ => rfl) (fun vs H Q E h => ?_) (fun cdv f A outer s H vs Q E hr h => ?_)
  · obtain ⟨q, l, k, hs, rfl, _⟩ := h
    rfl
  · obtain ⟨p, l, ⟨i, j⟩, hs, rfl, hp, hl, hi, hj, ne, h6, q⟩ := h
    refine ⟨_, PSs.nox (pss_cons (ps_if (PW.pt (pw_or (pt_not (pt_val (pe_callT C_is_list (hr.mono (by decide)) (by rfl) pass0 (pa_cons (pv 0) pa_nil)))) (pw_or (pt_cmpR op_ne (pe_callB (id := "len") (call_lenK (K := K) rfl) (by rfl) T.f_len (by decide +kernel) (pa_cons (pv 0) pa_nil)) (pe_int) (nomark _)) (pw_or1 (pt_not (pt_val (pe_callB (id := "all") (cr_allK (K := K) rfl rfl) (by rfl) T.f_all (by decide +kernel) (pa_cons (pe_lc (own := [("hand", 2)]) (by rfl) sc_are_two.nd (pi_tupK (K := K) rfl (pv 0)) (blkOk_by (own := [("hand", 2)]) (N := ["thing", "hands", "hand"]) (sc := defScope (topS 25)) (by decide +kernel)) (fun _ _ _ _ _ => (pg_name (i := 2) sc_are_two.nd rfl (.inl rfl))) (fun _ _ _ _ _ => pts_nil) (fun _ _ _ _ _ => (pe_callT C_is_hand_of (hr.mono (by decide)) (by rfl) pass0 (pa_cons (pv 2) (pa_cons (pv 1) pa_nil))))) pa_nil)))))))) (pss_one (ps_ret (pe_bl))) pss_nil)
      (pss_one (ps_ret (pe_cmpR op_ne (pe_ix (ix_tupK (K := K) rfl) (pv 0) (pe_int) (fun _ _ => rfl)) (pe_ix (ix_tupK (K := K) rfl) (pv 0) (pe_int) (fun _ _ => rfl)) (nomark _))))), ?_⟩
    refine ⟨_, rfl, _, "tuple", rfl, tyb_tup hp, fun H1 s1 => ⟨_, rfl, ?_⟩⟩
    have h1 := s1 _ _ hp
    refine ⟨_, rfl, _, 2, rfl, .inr ⟨_, .of h1, rfl⟩, rfl, _, rfl, ?_⟩
    refine ⟨_, rfl, p, rfl, ⟨_, .of h1⟩, fun D nD => ?_⟩
    refine lcw (us := [i, j]) (fun _ v u => v = hv u) (fun _ v u => v = .bl u) (fun _ => true) (fun _ => true) (wk_tup (.of h1) (.cons rfl (.cons rfl .nil)) fun _ _ _ _ _ h => h) (fun _ _ _ _ _ h => h) (by show 2 ≤ 1000000; decide) ?_ nD ?_
    · rintro n _ u H2 QF QT hu rfl s2 _ qt
      have hm : u ∈ hs := by
        have := mem_of n hu
        simp at this
        rcases this with rfl | rfl <;> assumption
      refine ⟨rfl, _, rfl, _, rfl, u, l, hs, rfl, h6 u hm, s2 _ _ (s1 _ _ hl), fun H3 s3 => ?_⟩
      rw [decide_eq_true hm]
      exact qt rfl _ H3 s3 rfl
    · intro ys H2 s2 hD hP
      have e : ys = [V.bl true, V.bl true] := by
        have := pr_eq V.bl hP
        simpa using this
      subst e
      refine ⟨D, [true, true], rfl, .of hD, _, rfl, ?_⟩
      have h2 := s2 _ _ h1
      refine ⟨_, rfl, p, _, 0, _, rfl, rfl, .of h2, rfl, _, rfl, p, _, 1, _, rfl, rfl, .of h2, rfl, rfl, ?_⟩
      have : decide (hv i = hv j) = false := by rw [hv_dec]; exact decide_eq_false ne
      rw [this]
      exact q _ (s1.trans s2)
/-- a road's least and most -/
def BdOk (x : Int × Option Int) : Prop := 0 ≤ x.1 ∧ ∀ m, x.2 = some m → x.1 ≤ m
def spAreBounds : Sp := fun vs H Q _ => ∃ (b : Addr) (x : Int × Option Int), vs = [.ref b] ∧ LoT H b [.int x.1, optI x.2] ∧ BdOk x ∧ ∀ H', Same H H' → Q (.bl true) H'
theorem ok_are_bounds (T : Txt K mg) : CallOk P w K mg base CX0 2 "are_bounds" ["thing"] [] spAreBounds := by
  have C_is_list : CallOk P w K mg base CX0 1 "is_list" ["thing"] [] (spIsList K) := ok_is_list T
  have C_is_integer : CallOk P w K mg base CX0 1 "is_integer" ["thing"] [] (spIsInteger K) := ok_is_integer T
  refine def_ok (st := s_are_bounds) T 14 12 rfl rfl sc_are_bounds (fun _ _ _ _ _ _ us hl => match us, hl with | [_], _ => rfl) (fun vs H Q E h => ?_) (fun cdv f A outer s H vs Q E hr h => ?_)
  · obtain ⟨b, x, rfl, _⟩ := h
    rfl
  · obtain ⟨b, ⟨lo, hi⟩, rfl, hb, ⟨h0, hh⟩, q⟩ := h
    refine ⟨_, PSs.nox (pss_cons (ps_if (PW.pt (pw_or (pt_not (pt_val (pe_callT C_is_list (hr.mono (by decide)) (by rfl) pass0 (pa_cons (pv 0) pa_nil)))) (pw_or (pt_cmpR op_ne (pe_callB (id := "len") (call_lenK (K := K) rfl) (by rfl) T.f_len (by decide +kernel) (pa_cons (pv 0) pa_nil)) (pe_int) (nomark _)) (pw_or (pt_not (pt_val (pe_callT C_is_integer (hr.mono (by decide)) (by rfl) pass0 (pa_cons (pe_ix (ix_seqK (K := K) rfl) (pv 0) (pe_int) (fun _ _ => rfl)) pa_nil)))) (pw_or1 (pt_cmpR op_lt (pe_ix (ix_seqK (K := K) rfl) (pv 0) (pe_int) (fun _ _ => rfl)) (pe_int) (nomark _))))))) (pss_one (ps_ret (pe_bl))) pss_nil)
      (pss_one (ps_ret (pe_or (pe_cmpR op_isN (pe_ix (ix_seqK (K := K) rfl) (pv 0) (pe_int) (fun _ _ => rfl)) (pe_non) (nomark _)) (pe_one (pe_and (pe_callT C_is_integer (hr.mono (by decide)) (by rfl) pass0 (pa_cons (pe_ix (ix_seqK (K := K) rfl) (pv 0) (pe_int) (fun _ _ => rfl)) pa_nil)) (pe_one (pe_cmpR op_ge (pe_ix (ix_seqK (K := K) rfl) (pv 0) (pe_int) (fun _ _ => rfl)) (pe_ix (ix_seqK (K := K) rfl) (pv 0) (pe_int) (fun _ _ => rfl)) (nomark _))))))))), ?_⟩
    obtain ⟨t, ty, et⟩ := tyb_lot (K := K) hb
    refine ⟨_, rfl, _, t, rfl, ty, fun H1 s1 => ⟨_, rfl, ?_⟩⟩
    rw [et]
    have h1 := LoT.same s1 hb
    refine ⟨_, rfl, _, 2, rfl, len_lot h1, rfl, _, rfl, ?_⟩
    refine ⟨_, rfl, ix_lot h1 (v := .int lo) rfl ?_⟩
    refine ⟨_, "int", rfl, tyb_int, _, rfl, ?_⟩
    refine ⟨_, rfl, ix_lot h1 (v := .int lo) rfl ?_⟩
    refine ⟨_, _, rfl, rfl, _, rfl, ?_⟩
    have e : decide (lo < 0) = false := decide_eq_false (by omega)
    rw [e]
    refine ⟨_, rfl, ix_lot h1 (v := optI hi) rfl ⟨rfl, _, rfl, ?_⟩⟩
    cases hi with
    | none => exact q _ s1
    | some m =>
      refine ⟨_, rfl, ix_lot h1 (v := .int m) rfl ⟨_, "int", rfl, tyb_int, _, rfl, ?_⟩⟩
      refine ⟨_, rfl, ix_lot h1 (v := .int m) rfl ⟨_, rfl, ix_lot h1 (v := .int lo) rfl ⟨_, _, rfl, rfl, ?_⟩⟩⟩
      have := hh m rfl
      have e : decide (lo ≤ m) = true := decide_eq_true this
      show Q (.bl (decide (lo ≤ m))) H1
      rw [e]
      exact q _ s1
/-- the told roads: lists or tuples; the kept ones: tuples -/
def RdTold (H : Hp) (a : Addr) (ks : List (Nat × Nat)) (rd : Nat × Nat → Int × Option Int) : Prop := ∃ v, H a = some (.dT (dt ks v)) ∧ ∀ k ∈ ks, ∃ b, v k = .ref b ∧ LoT H b [.int (rd k).1, optI (rd k).2]
def RdKept (H : Hp) (a : Addr) (ks : List (Nat × Nat)) (rd : Nat × Nat → Int × Option Int) : Prop := ∃ v, H a = some (.dT (dt ks v)) ∧ ∀ k ∈ ks, ∃ b, v k = .ref b ∧ H b = some (.tup [.int (rd k).1, optI (rd k).2])
theorem RdKept.same {H H' : Hp} {a : Addr} {ks : List (Nat × Nat)} {rd : Nat × Nat → Int × Option Int} (s : Same H H') (h : RdKept H a ks rd) : RdKept H' a ks rd :=
  let ⟨v, e, k⟩ := h; ⟨v, s _ _ e, fun x hx => let ⟨b, e1, e2⟩ := k x hx; ⟨b, e1, s _ _ e2⟩⟩
theorem RdKept.get {H : Hp} {a b : Addr} {ks : List (Nat × Nat)} {rd : Nat × Nat → Int × Option Int} {k : Nat × Nat} (r : RdKept H a ks rd) (hb : PrT H b k.1 k.2) (hk : k ∈ ks) : ∃ c, DGet H a (.ref b) (some (.ref c)) ∧ H c = some (.tup [.int (rd k).1, optI (rd k).2]) := by
  obtain ⟨v, e, h⟩ := r
  obtain ⟨c, e1, e2⟩ := h k hk
  refine ⟨c, ?_, e2⟩
  have := get_dt (.of e) hb
  rw [if_pos hk, e1] at this
  exact this
/-- pairs of unlike hands -/
def PrsOk (hs : List Nat) (ks : List (Nat × Nat)) : Prop := ks.Nodup ∧ ks.length ≤ 1000 ∧ ∀ k ∈ ks, k.1 ∈ hs ∧ k.2 ∈ hs ∧ k.1 ≠ k.2
theorem pr_keys {H : Hp} {ks : List (Nat × Nat)} {v : Nat × Nat → V} {bs : List Addr} (h : IsKeys H (dt ks v) bs) : Paired (fun b k => PrT H b k.1 k.2) bs ks := by
  induction ks generalizing bs with
  | nil => cases h; exact .nil
  | cons k r ih =>
    cases h with
    | cons h t => exact .cons h (ih t)
def spCLR : Sp := fun vs H Q _ => ∃ (r l : Addr) (ks : List (Nat × Nat)) (rd : Nat × Nat → Int × Option Int) (hs : List Nat), vs = [.ref r, .ref l] ∧ RdTold H r ks rd ∧ PrsOk hs ks ∧ (∀ k ∈ ks, BdOk (rd k)) ∧ H l = some (.lst (hs.map hv)) ∧ (∀ h ∈ hs, h < 6) ∧
  ∀ p H' ks', Same H H' → H p = none → RdKept H' p ks' rd → ks'.Perm ks → ks'.Pairwise pLe → Q (.ref p) H'
theorem ok_clr (T : Txt K mg) : CallOk P w K mg base CX0 4 "checked_log_roads" ["roads", "hands"] [] spCLR := by
  have C_are_two : CallOk P w K mg base CX0 3 "are_two" ["thing", "hands"] [] spAreTwo := ok_are_two T
  have C_are_bounds : CallOk P w K mg base CX0 2 "are_bounds" ["thing"] [] spAreBounds := ok_are_bounds T
  refine def_ok (st := s_checked_log_roads) T 15 13 rfl rfl sc_checked_log_roads (fun _ _ _ _ _ _ us hl => match us, hl with | [_, _], _ => rfl) (fun vs H Q E h => ?_) (fun cdv f A outer s H vs Q E hr h => ?_)
  · obtain ⟨r, l, ks, rd, hs, rfl, _⟩ := h
    rfl
  · obtain ⟨r, l, ks, rd, hs, rfl, ⟨v, hr1, hv1⟩, ⟨knd, kz, kin⟩, kb, hl, h6, q⟩ := h
    refine ⟨_, PSs.nox (pss_cons (ps_if (pt_not (pt_val (pe_callB (id := "isinstance") (call_isiK1 (K := K) rfl) (by rfl) T.f_isinstance (by decide +kernel) (pa_cons (pv 0) (pa_cons (pe_bltn (v := .ty "dict") (by rfl) T.f_dict (by decide +kernel) rfl) pa_nil))))) (pss_one (ps_never)) pss_nil)
      (pss_cons (ps_lock (ps_for PassesOwn.never rfl (pi_keys (pv 0)) (pg_name (i := 2) sc_checked_log_roads.nd rfl (.inl rfl))
      (pss_one (ps_if (PW.pt (pw_or (pt_not (pt_val (pe_callT C_are_two (hr.mono (by decide)) (by rfl) pass0 (pa_cons (pv 2) (pa_cons (pv 1) pa_nil))))) (pw_or1 (pt_not (pt_val (pe_callT C_are_bounds (hr.mono (by decide)) (by rfl) pass0 (pa_cons (pe_dget (hu_of hr) (pv 0) (pv 2) (fun _ _ => rfl)) pa_nil))))))) (pss_one (ps_never)) pss_nil))))
      (pss_one (ps_ret (pe_dcA (.dT []) (.inr rfl) (hu_of hr) (own := [("key", 2)]) (by rfl) sc_checked_log_roads.nd (pi_listK (K := K) rfl (pe_callB (id := "sorted") cr_sortedN (by rfl) T.f_sorted (by decide +kernel) (pa_cons (pe_callTy (T := "list") (call_list_dT rfl) (by rfl) T.f_list (by decide +kernel) (pa_cons (pv 0) pa_nil)) pa_nil))) (blkOk_by (own := [("key", 2)]) (N := ["roads", "hands", "key"]) (sc := defScope (topS 27)) (by decide +kernel)) (fun _ _ _ _ _ => (pg_name (i := 2) sc_checked_log_roads.nd rfl (.inl rfl))) (fun _ _ _ _ _ => pts_nil) (fun _ _ _ _ _ => (pv 2)) (fun _ _ _ _ _ => (pe_callTy (T := "tuple") (call_tupK (K := K) rfl) (by rfl) T.f_tuple (by decide +kernel) (pa_cons (pe_dget (hu_of hr) (pv 0) (pv 2) (fun _ _ => rfl)) pa_nil)))))))), ?_⟩
    refine ⟨_, rfl, _, _, _, _, _, rfl, .ty "dict", (tyb_dT hr1).1, kit1 (by decide) (by decide), _, rfl, ?_⟩
    refine ⟨r, _, hr1, trivial, fun od => ⟨_, rfl, r, od, rfl, .inr ⟨_, upd_same, ?_⟩⟩⟩
    have lk : ∀ b o, H b = some o → o ≠ .dT (dt ks v) → (upd H r (.frz od (.dT (dt ks v)))) b = some o := fun b o h n => locked hr1 h n
    refine for_wk (wk_keysP upd_same) (fun i σ H' => Same (upd H r (.frz od (.dT (dt ks v)))) H' ∧ ∃ x, σ = [some (.ref r), some (.ref l), x]) ⟨.refl _, _, rfl⟩ (fun _ _ _ h => h.1) ?_ ?_
    · rintro i k x σ H0 H2 hu ⟨s0, y, rfl⟩ s1 ⟨p, rfl, hp⟩
      have s2 := s0.trans s1
      have hk := mem_of i hu
      obtain ⟨k1, k2, kn⟩ := kin k hk
      refine ⟨_, rfl, _, rfl, p, l, k, hs, rfl, hp, s2 _ _ (lk _ _ hl (fun z => by cases z)), k1, k2, kn, h6, fun H3 s3 => ⟨_, rfl, ?_⟩⟩
      obtain ⟨b, e1, e2⟩ := hv1 k hk
      have s23 := s2.trans s3
      have eb : LoT H3 b [.int (rd k).1, optI (rd k).2] := e2.imp (fun h => s23 _ _ (lk _ _ h fun z => by cases z)) (fun h => s23 _ _ (lk _ _ h fun z => by cases z))
      refine ⟨_, rfl, _, rfl, r, v k, rfl, ?_, ?_⟩
      · have := get_dt (v := v) (.inr ⟨od, s23 _ _ upd_same⟩) (s3 _ _ hp)
        rw [if_pos hk] at this
        exact this
      · exact ⟨b, rd k, by rw [e1]; rfl, eb, kb k hk, fun H4 s4 => ⟨_, rfl, s23.trans s4, _, rfl⟩⟩
    · rintro σ H2 ⟨s2, x, rfl⟩
      refine ⟨s2 _ _ upd_same, ?_⟩
      have sH := unlock s2 hr1
      generalize upd H2 r (.dT (dt ks v)) = H3 at sH ⊢
      refine ⟨_, rfl, r, dt ks v, rfl, .of (sH _ _ hr1), fun a bs na hk => ?_⟩
      have hP := pr_keys hk
      have sA := same_new (o := .lst (bs.map V.ref)) na
      refine ⟨a, bs, ks, rfl, .of upd_same, pr_mono hP fun b k h => sA _ _ h, fun bs' ks' p hP' pm srt np => ?_⟩
      have sP := same_new (o := .lst (bs'.map V.ref)) np
      have sHP := (sH.trans sA).trans sP
      refine ⟨p, rfl, ⟨_, .of upd_same⟩, fun D nD => ?_⟩
      have hkin : ∀ k ∈ ks', k ∈ ks := fun k hk => pm.mem_iff.mp hk
      refine dcwT (ks := ks') (fun H v k => ∃ b, v = .ref b ∧ H b = some (.tup [.int (rd k).1, optI (rd k).2])) (wk_list (.of upd_same) (pr_mapL V.ref (pr_mono hP' fun b k h => ⟨b, rfl, sP _ _ h⟩)) fun _ _ _ _ s ⟨q, e, h⟩ => ⟨q, e, s _ _ h⟩) (pm.nodup_iff.mpr knd) (by rw [pm.length_eq]; exact kz) (fun _ _ _ _ k ⟨b, e, h⟩ => ⟨b, e, k _ _ h⟩) ?_ nD ?_
      · intro k hk t H4 Nx s4 ht go
        obtain ⟨b, e1, e2⟩ := hv1 k (hkin k hk)
        have s5 := sHP.trans s4
        refine ⟨rfl, _, rfl, _, rfl, _, rfl, r, v k, rfl, ?_, ?_⟩
        · have := get_dt (v := v) (.of (s5 _ _ hr1)) ht
          rw [if_pos (hkin k hk)] at this
          exact this
        · refine ⟨b, [.int (rd k).1, optI (rd k).2], by rw [e1], ?_⟩
          rcases e2 with h | h
          · exact .inl ⟨.of (s5 _ _ h), fun c nc => go _ _ (same_new nc) ⟨c, rfl, upd_same⟩⟩
          · exact .inr ⟨.of (s5 _ _ h), go _ _ (.refl _) ⟨b, rfl, s5 _ _ h⟩⟩
      · intro u H4 s4 hD hu
        exact q D H4 ks' (sHP.trans s4) (sHP.free nD) ⟨u, hD, hu⟩ pm srt
end
end K80

set_option maxHeartbeats 4000000
/-! letters; the direct shifts -/
namespace K80
open PySem PySem.Spec L2
open PyProof.Rows hiding St
abbrev s_checked_log_letters : Stmt := (topS 28)
theorem sc_checked_log_letters : FnScope ["letters", "roads", "index", "thing"] ["letters", "roads"] (defScope s_checked_log_letters) := ⟨rfl, rfl, rfl, by decide +kernel, rfl, by decide +kernel, by decide +kernel⟩
abbrev s_direct_shifts : Stmt := (topS 29)
theorem sc_direct_shifts : FnScope ["roads", "letters", "found", "one", "sent", "other", "heard", "least", "most", "rows", "pair", "far"] ["roads", "letters"] (defScope s_direct_shifts) := ⟨rfl, rfl, rfl, by decide +kernel, rfl, by decide +kernel, by decide +kernel⟩
section
variable {P : Program} {w : World} {K : PySem.W.Frag} {mg : Str → Option Value} {base : Heap}
/-- a letter: from, sent, to, heard -/
structure Lt where
  one : Nat
  sent : Int
  other : Nat
  heard : Int
abbrev Lt.v (l : Lt) : List V := [hv l.one, .int l.sent, hv l.other, .int l.heard]
abbrev Lt.k (l : Lt) : Nat × Nat := (l.one, l.other)
def LtTold (H : Hp) (a : Addr) (ls : List Lt) : Prop := ∃ xs, H a = some (.lst xs) ∧ Paired (fun v l => ∃ b, v = .ref b ∧ LoT H b (Lt.v l)) xs ls
def LtKept (H : Hp) (a : Addr) (ls : List Lt) : Prop := ∃ xs, H a = some (.lst xs) ∧ Paired (fun v l => ∃ b, v = .ref b ∧ H b = some (.tup (Lt.v l))) xs ls
theorem LtKept.same {H H' : Hp} {a : Addr} {ls : List Lt} (s : Same H H') (h : LtKept H a ls) : LtKept H' a ls :=
  let ⟨xs, e, p⟩ := h; ⟨xs, s _ _ e, pr_mono p fun v l ⟨b, e1, e2⟩ => ⟨b, e1, s _ _ e2⟩⟩
def spCLL : Sp := fun vs H Q _ => ∃ (a r : Addr) (ks : List (Nat × Nat)) (rd : Nat × Nat → Int × Option Int) (ls : List Lt), vs = [.ref a, .ref r] ∧ LtTold H a ls ∧ RdKept H r ks rd ∧ (∀ l ∈ ls, l.k ∈ ks) ∧ ls.length ≤ 1000 ∧
  ∀ p H', Same H H' → H p = none → LtKept H' p ls → Q (.ref p) H'
theorem ok_cll (T : Txt K mg) : CallOk P w K mg base CX0 2 "checked_log_letters" ["letters", "roads"] [] spCLL := by
  have C_is_list : CallOk P w K mg base CX0 1 "is_list" ["thing"] [] (spIsList K) := ok_is_list T
  have C_is_integer : CallOk P w K mg base CX0 1 "is_integer" ["thing"] [] (spIsInteger K) := ok_is_integer T
  refine def_ok (st := s_checked_log_letters) T 16 14 rfl rfl sc_checked_log_letters (fun _ _ _ _ _ _ us hl => match us, hl with | [_, _], _ => rfl) (fun vs H Q E h => ?_) (fun cdv f A outer s H vs Q E hr h => ?_)
  · obtain ⟨a, r, ks, rd, ls, rfl, _⟩ := h
    rfl
  · obtain ⟨a, r, ks, rd, ls, rfl, ⟨xs, ha, hP⟩, hr1, hin, hz, q⟩ := h
    refine ⟨_, PSs.nox (pss_cons (ps_if (pt_not (pt_val (pe_callT C_is_list (hr.mono (by decide)) (by rfl) pass0 (pa_cons (pv 0) pa_nil)))) (pss_one (ps_never)) pss_nil)
      (pss_cons (ps_for PassesOwn.never rfl (pi_enum (by rfl) T.f_enumerate (pa_cons (pv 0) pa_nil)) (pg_tupK (K := K) rfl rfl (pgs_cons (pg_name (i := 2) sc_checked_log_letters.nd rfl (.inl rfl)) (pgs_cons (pg_name (i := 3) sc_checked_log_letters.nd rfl (.inl rfl)) pgs_nil)))
      (pss_cons (ps_if (PW.pt (pw_or (pt_not (pt_val (pe_callT C_is_list (hr.mono (by decide)) (by rfl) pass0 (pa_cons (pv 3) pa_nil)))) (pw_or (pt_cmpR op_ne (pe_callB (id := "len") (call_lenK (K := K) rfl) (by rfl) T.f_len (by decide +kernel) (pa_cons (pv 3) pa_nil)) (pe_int) (nomark _)) (pw_or (pt_not (pt_val (pe_callT C_is_integer (hr.mono (by decide)) (by rfl) pass0 (pa_cons (pe_ix (ix_seqK (K := K) rfl) (pv 3) (pe_int) (fun _ _ => rfl)) pa_nil)))) (pw_or1 (pt_not (pt_val (pe_callT C_is_integer (hr.mono (by decide)) (by rfl) pass0 (pa_cons (pe_ix (ix_seqK (K := K) rfl) (pv 3) (pe_int) (fun _ _ => rfl)) pa_nil))))))))) (pss_one (ps_never)) pss_nil)
      (pss_one (ps_if (PW.pt (pw_or (pt_not (pt_val (pe_callB (id := "isinstance") (call_isiK1 (K := K) rfl) (by rfl) T.f_isinstance (by decide +kernel) (pa_cons (pe_ix (ix_seqK (K := K) rfl) (pv 3) (pe_int) (fun _ _ => rfl)) (pa_cons (pe_bltn (v := .ty "str") (by rfl) T.f_str (by decide +kernel) rfl) pa_nil))))) (pw_or (pt_not (pt_val (pe_callB (id := "isinstance") (call_isiK1 (K := K) rfl) (by rfl) T.f_isinstance (by decide +kernel) (pa_cons (pe_ix (ix_seqK (K := K) rfl) (pv 3) (pe_int) (fun _ _ => rfl)) (pa_cons (pe_bltn (v := .ty "str") (by rfl) T.f_str (by decide +kernel) rfl) pa_nil))))) (pw_or1 (pt_cmp (pc_dnotin (hu_of hr) (pe_tup (pa_cons (pe_ix (ix_seqK (K := K) rfl) (pv 3) (pe_int) (fun _ _ => rfl)) (pa_cons (pe_ix (ix_seqK (K := K) rfl) (pv 3) (pe_int) (fun _ _ => rfl)) pa_nil))) (pv 1))))))) (pss_one (ps_never)) pss_nil))))
      (pss_one (ps_ret (pe_lc (own := [("thing", 3)]) (by rfl) sc_checked_log_letters.nd (pi_listK (K := K) rfl (pv 0)) (blkOk_by (own := [("thing", 3)]) (N := ["letters", "roads", "index", "thing"]) (sc := defScope (topS 28)) (by decide +kernel)) (fun _ _ _ _ _ => (pg_name (i := 3) sc_checked_log_letters.nd rfl (.inl rfl))) (fun _ _ _ _ _ => pts_nil) (fun _ _ _ _ _ => (pe_callTy (T := "tuple") (call_tupK (K := K) rfl) (by rfl) T.f_tuple (by decide +kernel) (pa_cons (pv 3) pa_nil)))))))), ?_⟩
    refine ⟨_, rfl, _, "list", rfl, tyb_lst ha, fun H1 s1 => ⟨_, rfl, ?_⟩⟩
    refine ⟨_, rfl, a, xs, rfl, .of (s1 _ _ ha), ?_⟩
    refine for_enum (xs := xs) (fun i σ H' => ∃ u v, σ = [some (.ref a), some (.ref r), u, v] ∧ Same H H') ⟨_, _, rfl, s1⟩ ?_ ?_ ?_
    · intro i σ H' _ ⟨u, v, _, sm⟩
      exact .of (sm _ _ ha)
    · rintro i x Tt σ H' hx ⟨u, v, rfl, sm⟩ nT
      obtain ⟨l, hl, b, rfl, hb⟩ := pr_getL hP hx
      have hm : l ∈ ls := mem_of i hl
      have sT := same_new (o := .tup [.int (i : Nat), .ref b]) nT
      refine ⟨Tt, _, rfl, .of upd_same, rfl, _, _, rfl, _, _, rfl, rfl, ?_⟩
      have hb1 := LoT.same (sm.trans sT) hb
      obtain ⟨t, ty, et⟩ := tyb_lot (K := K) hb1
      refine ⟨_, rfl, _, t, rfl, ty, fun H2 s2 => ⟨_, rfl, ?_⟩⟩
      rw [et]
      have hb2 := LoT.same s2 hb1
      refine ⟨_, rfl, _, 4, rfl, len_lot hb2, rfl, _, rfl, ?_⟩
      refine ⟨_, rfl, ix_lot hb2 (v := .int l.sent) rfl ⟨_, "int", rfl, tyb_int, _, rfl, ?_⟩⟩
      refine ⟨_, rfl, ix_lot hb2 (v := .int l.heard) rfl ⟨_, "int", rfl, tyb_int, _, rfl, ?_⟩⟩
      refine ⟨_, rfl, ix_lot hb2 (v := hv l.one) rfl ⟨_, _, _, _, _, rfl, .ty "str", tyb_str.1, kit1 (by decide) (by decide), _, rfl, ?_⟩⟩
      refine ⟨_, rfl, ix_lot hb2 (v := hv l.other) rfl ⟨_, _, _, _, _, rfl, .ty "str", tyb_str.1, kit1 (by decide) (by decide), _, rfl, ?_⟩⟩
      refine ⟨_, rfl, ix_lot hb2 (v := hv l.one) rfl ?_⟩
      refine ⟨_, rfl, ix_lot hb2 (v := hv l.other) rfl ⟨by show 2 ≤ sizeLine; decide, fun p np => ?_⟩⟩
      have sp := same_new (o := .tup [hv l.one, hv l.other]) np
      have s4 := ((sm.trans sT).trans s2).trans sp
      obtain ⟨v', e1, _⟩ := id hr1
      refine ⟨_, rfl, r, _, rfl, get_dt (k := l.k) (.of (s4 _ _ e1)) upd_same, _, rfl, ?_⟩
      rw [if_pos (hin l hm)]
      exact ⟨_, _, rfl, s4⟩
    · rintro σ H2 ⟨u, v, rfl, sm⟩
      refine ⟨_, rfl, a, rfl, ⟨_, .of (sm _ _ ha)⟩, fun D nD => ?_⟩
      refine lcw (us := ls) (fun H v l => ∃ b, v = .ref b ∧ LoT H b (Lt.v l)) (fun H v l => ∃ b, v = .ref b ∧ H b = some (.tup (Lt.v l))) (fun _ => true) id
        (wk_list (.of (sm _ _ ha)) (pr_mono hP fun v l ⟨b, e, h⟩ => ⟨b, e, LoT.same sm h⟩) fun _ _ _ _ s ⟨b, e, h⟩ => ⟨b, e, LoT.same s h⟩) (fun _ _ _ _ k ⟨b, e, h⟩ => ⟨b, e, k _ _ h⟩) (Nat.le_trans hz (by decide)) ?_ nD ?_
      · rintro i x l H3 QF QT hl ⟨b, rfl, hb⟩ s3 _ qt
        refine ⟨rfl, _, rfl, b, Lt.v l, rfl, ?_⟩
        rcases hb with h | h
        · exact .inl ⟨.of h, fun c nc => qt rfl _ _ (same_new nc) ⟨c, rfl, upd_same⟩⟩
        · exact .inr ⟨.of h, qt rfl _ _ (.refl _) ⟨b, rfl, h⟩⟩
      · intro ys H3 s3 hD hP'
        rw [filter_all, List.map_id] at hP'
        exact q D H3 (sm.trans s3) (sm.free nD) ⟨ys, hD, hP'⟩
/-! ### the direct shifts -/
abbrev Dm := Nat → Nat → Option Int
def minO (o : Option Int) (x : Int) : Int := match o with | none => x | some y => if y < x then y else x
theorem minO_eq (o : Option Int) (x : Int) : (if o.getD x < x then o.getD x else x) = minO o x := by
  cases o with
  | none => show (if x < x then x else x) = x; split <;> rfl
  | some y => rfl
/-- the least of what stood and x -/
def shf (d : Dm) (i j : Nat) (x : Int) : Dm := fun a b => if a = i ∧ b = j then some (minO (d i j) x) else d a b
def dRows (rd : Nat × Nat → Int × Option Int) (l : Lt) : List ((Nat × Nat) × Int) := ((l.one, l.other), l.heard - l.sent - (rd l.k).1) :: match (rd l.k).2 with
  | none => []
  | some m => [((l.other, l.one), m - l.heard + l.sent)]
abbrev rowsF (d : Dm) (rs : List ((Nat × Nat) × Int)) : Dm := rs.foldl (fun d r => shf d r.1.1 r.1.2 r.2) d
def direct (rd : Nat × Nat → Int × Option Int) (ls : List Lt) : Dm := ls.foldl (fun d l => rowsF d (dRows rd l)) fun _ _ => none
/-- as a table of values -/
abbrev dI (d : Dm) : Nat → Nat → Option V := fun a b => (d a b).map V.int
theorem tb_shf {hs : List Nat} {d : Dm} {kvs : List (List Key × V)} {i j : Nat} {x : Int} (t : Tb hs (dI d) kvs) (hi : i ∈ hs) (hj : j ∈ hs) : Tb hs (dI (shf d i j x)) (putK kvs (pk i j) (.int (minO (d i j) x))) := by
  have h := tb_put t (.int (minO (d i j) x)) hi hj
  refine ⟨h.1, h.2.1, fun a b => ?_⟩
  rw [h.2.2]
  unfold dI shf
  by_cases c : a = i ∧ b = j
  · simp only [if_pos c]; rfl
  · simp only [if_neg c]
theorem foldl_take_succ {α β : Type} {f : β → α → β} {l : List α} {i : Nat} {a : α} {b : β} (h : l[i]? = some a) : (l.take (i + 1)).foldl f b = f ((l.take i).foldl f b) a := by
  rw [take_succ' h, List.foldl_append]
  rfl
/-- a table at F, all else kept -/
def TbAt (hs : List Nat) (H : Hp) (F : Addr) (d : Dm) : Prop := ∃ kvs, H F = some (.dT kvs) ∧ Tb hs (dI d) kvs
theorem sameB_new {H : Hp} {F p : Addr} {o : HO} (h : H p = none) : SameB F H (upd H p o) := fun b x _ e => same_new h b x e
theorem SameB.trans {F : Addr} {H H1 H2 : Hp} (a : SameB F H H1) (b : SameB F H1 H2) : SameB F H H2 := fun c o n h => b c o n (a c o n h)
theorem SameB.refl {F : Addr} {H : Hp} : SameB F H H := fun _ _ _ h => h
theorem sameB_of {F : Addr} {H H' : Hp} (s : Same H H') : SameB F H H' := fun b o _ h => s b o h
theorem sameB_upd {H : Hp} {F : Addr} {o : HO} : SameB F H (upd H F o) := fun b x n e => by rw [upd_ne n]; exact e
theorem SameB.free {F p : Addr} {H H' : Hp} (s : SameB F H H') (n : H' p = none) (hp : p ≠ F) : H p = none := by
  cases h : H p with
  | none => rfl
  | some o => rw [s _ _ hp h] at n; cases n
theorem sameB_mut {F p : Addr} {H H' : Hp} {o : HO} (s : SameB F H H') (n : H p = none) : SameB F H (upd H' p o) := fun b x nb e => by
  rw [upd_ne (ne_of_none e n)]
  exact s b x nb e
theorem SameB.new {F : Addr} {H H' : Hp} (s : SameB F H H') (n : H F = none) : Same H H' := fun b o h => s b o (ne_of_none h n) h
def spDS : Sp := fun vs H Q _ => ∃ (r a : Addr) (ks : List (Nat × Nat)) (rd : Nat × Nat → Int × Option Int) (ls : List Lt) (hs : List Nat), vs = [.ref r, .ref a] ∧ RdKept H r ks rd ∧ LtKept H a ls ∧ (∀ l ∈ ls, l.k ∈ ks) ∧ (∀ k ∈ ks, k.1 ∈ hs ∧ k.2 ∈ hs) ∧ hs.length ≤ 6 ∧
  ∀ p H', Same H H' → H p = none → TbAt hs H' p (direct rd ls) → Q (.ref p) H'
theorem ok_ds (T : Txt K mg) : CallOk P w K mg base CX0 1 "direct_shifts" ["roads", "letters"] [] spDS := by
  refine def_ok (st := s_direct_shifts) T 17 15 rfl rfl sc_direct_shifts (fun _ _ _ _ _ _ us hl => match us, hl with | [_, _], _ => rfl) (fun vs H Q E h => ?_) (fun cdv f A outer s H vs Q E hr h => ?_)
  · obtain ⟨r, a, ks, rd, ls, hs, rfl, _⟩ := h
    rfl
  · obtain ⟨r, a, ks, rd, ls, hs, rfl, hr1, ⟨xs, ha, hP⟩, hin, hkh, h6, q⟩ := h
    refine ⟨_, PSs.nox (pss_cons (ps_set (i := 2) sc_direct_shifts.nd rfl (.inl rfl) (pe_dnewT))
      (pss_cons (ps_for PassesOwn.never rfl (pi_listK (K := K) rfl (pv 1)) (pg_tupK (K := K) rfl rfl (pgs_cons (pg_name (i := 3) sc_direct_shifts.nd rfl (.inl rfl)) (pgs_cons (pg_name (i := 4) sc_direct_shifts.nd rfl (.inl rfl)) (pgs_cons (pg_name (i := 5) sc_direct_shifts.nd rfl (.inl rfl)) (pgs_cons (pg_name (i := 6) sc_direct_shifts.nd rfl (.inl rfl)) pgs_nil)))))
      (pss_cons (ps_asg (pe_dget (hu_of hr) (pv 0) (pe_tup (pa_cons (pv 3) (pa_cons (pv 5) pa_nil))) (fun _ _ => rfl)) (pg_tupK (K := K) rfl rfl (pgs_cons (pg_name (i := 7) sc_direct_shifts.nd rfl (.inl rfl)) (pgs_cons (pg_name (i := 8) sc_direct_shifts.nd rfl (.inl rfl)) pgs_nil))))
      (pss_cons (ps_set (i := 9) sc_direct_shifts.nd rfl (.inl rfl) (pe_lst (pa_cons (pe_tup (pa_cons (pe_tup (pa_cons (pv 3) (pa_cons (pv 5) pa_nil))) (pa_cons (pe_op op_sub (pe_op op_sub (pv 6) (pv 4)) (pv 7)) pa_nil))) pa_nil)))
      (Evl.pss_cut (ps_if (pt_cmpR op_notN (pv 8) (pe_non) (nomark _)) (pss_one (ps_expr (pe_bmK (K := K) rfl PySem.F.plainAttrs_list PySem.F.slot_list_append PySem.F.type_list_append mt_append (pv 9) (pa_cons (pe_tup (pa_cons (pe_tup (pa_cons (pv 5) (pa_cons (pv 3) pa_nil))) (pa_cons (pe_op op_add (pe_op op_sub (pv 8) (pv 6)) (pv 4)) pa_nil))) pa_nil)))) pss_nil)
      (pss_one (ps_for PassesOwn.never rfl (pi_listK (K := K) rfl (pv 9)) (pg_tupK (K := K) rfl rfl (pgs_cons (pg_name (i := 10) sc_direct_shifts.nd rfl (.inl rfl)) (pgs_cons (pg_name (i := 11) sc_direct_shifts.nd rfl (.inl rfl)) pgs_nil)))
      (pss_one (ps_dput (hu_of hr) (pv 2) (pv 10) (pe_callB (id := "min") (call_min2 rfl) (by rfl) T.f_min (by decide +kernel) (pa_cons (pv 11) (pa_cons (pe_dget2 (hu_of hr) (pv 2) (pv 10) (pv 11) ⟨rfl, rfl, rfl, rfl⟩) pa_nil))) rfl))))))))
      (pss_one (ps_ret (pv 2))))), ?_⟩
    intro F nF
    have sF := same_new (o := .dT []) nF
    refine ⟨_, rfl, a, rfl, ⟨_, .of (sF _ _ ha)⟩, ?_⟩
    refine for_list (xs := xs) (fun i σ H' => (∃ x3 x4 x5 x6 x7 x8 x9 x10 x11, σ = [some (.ref r), some (.ref a), some (.ref F), x3, x4, x5, x6, x7, x8, x9, x10, x11]) ∧ SameB F H H' ∧ TbAt hs H' F ((ls.take i).foldl (fun d l => rowsF d (dRows rd l)) fun _ _ => none))
      ⟨⟨_, _, _, _, _, _, _, _, _, rfl⟩, sameB_of sF, [], upd_same, tb_nil⟩ ?_ ?_ ?_
    · intro i σ H' _ ⟨_, sm, _⟩
      exact .of (sm _ _ (ne_of_none ha nF) ha)
    · rintro i x σ H' hx ⟨⟨x3, x4, x5, x6, x7, x8, x9, x10, x11, rfl⟩, sm, kvs, hF, tF⟩
      obtain ⟨l, hl, b, rfl, hb⟩ := pr_getL hP hx
      have hm : l ∈ ls := mem_of i hl
      have sr := sm.new nF
      refine ⟨b, Lt.v l, rfl, .of (sr _ _ hb), rfl, _, _, rfl, _, _, rfl, _, _, rfl, _, _, rfl, rfl, ?_⟩
      refine ⟨_, rfl, _, rfl, _, rfl, by show 2 ≤ sizeLine; decide, fun p np => ?_⟩
      have sp := same_new (o := .tup [hv l.one, hv l.other]) np
      obtain ⟨c, g, hc⟩ := RdKept.get (k := l.k) (b := p) (RdKept.same (sr.trans sp) hr1) upd_same (hin l hm)
      refine ⟨r, .ref c, rfl, g, c, _, rfl, .of hc, rfl, _, _, rfl, _, _, rfl, rfl, ?_⟩
      have spc := sm.trans (sameB_of sp)
      -- the row's list
      refine ⟨_, rfl, _, rfl, by show 2 ≤ sizeLine; decide, fun p1 n1 => ?_⟩
      have s1 := same_new (o := .tup [hv l.one, hv l.other]) n1
      refine ⟨_, rfl, _, rfl, _, _, rfl, rfl, _, rfl, _, _, rfl, rfl, by show 2 ≤ sizeLine; decide, fun t1 m1 => ?_⟩
      have s2 := same_new (o := .tup [.ref p1, .int (l.heard - l.sent - (rd l.k).1)]) m1
      refine ⟨by show 1 ≤ sizeLine; decide, fun R nR => ?_⟩
      have s3 := same_new (o := .lst [.ref t1]) nR
      have sh := (spc.trans (sameB_of s1)).trans ((sameB_of s2).trans (sameB_of s3))
      have hF3 := s3 _ _ (s2 _ _ (s1 _ _ (sp _ _ hF)))
      have hp1 : PrT _ p1 l.one l.other := s3 _ _ (s2 _ _ upd_same)
      have ht1 := s3 _ _ (upd_same (H := _) (a := t1) (o := .tup [.ref p1, .int (l.heard - l.sent - (rd l.k).1)]))
      have hR := upd_same (H := upd (upd (upd H' p (.tup [hv l.one, hv l.other])) p1 (.tup [hv l.one, hv l.other])) t1 (.tup [.ref p1, .int (l.heard - l.sent - (rd l.k).1)])) (a := R) (o := .lst [.ref t1])
      have nRH : H R = none := by
        have : R ≠ F := (ne_of_none (s2 _ _ (s1 _ _ (sp _ _ hF))) nR).symm
        exact (sm.trans ((sameB_of sp).trans ((sameB_of s1).trans (sameB_of s2)))).free nR this
      generalize upd (upd (upd (upd H' p (.tup [hv l.one, hv l.other])) p1 (.tup [hv l.one, hv l.other])) t1 (.tup [.ref p1, .int (l.heard - l.sent - (rd l.k).1)])) R (.lst [.ref t1]) = H3 at sh hF3 hp1 ht1 hR ⊢
      refine ⟨fun σ' H' => (∃ x10 x11, σ' = [some (.ref r), some (.ref a), some (.ref F), some (hv l.one), some (.int l.sent), some (hv l.other), some (.int l.heard), some (.int (rd l.k).1), some (optI (rd l.k).2), some (.ref R), x10, x11]) ∧
        SameB F H H' ∧ H' F = some (.dT kvs) ∧ ∃ ts, H' R = some (.lst ts) ∧ Paired (fun v (x : (Nat × Nat) × Int) => ∃ t q, v = .ref t ∧ H' t = some (.tup [.ref q, .int x.2]) ∧ PrT H' q x.1.1 x.1.2) ts (dRows rd l), ?_, ?_⟩
      · refine ⟨_, rfl, rfl, _, rfl, ?_⟩
        unfold dRows
        cases hm : (rd l.k).2 with
        | none => exact ⟨⟨_, _, rfl⟩, sh, hF3, _, hR, .cons ⟨t1, p1, rfl, ht1, hp1⟩ .nil⟩
        | some m =>
          refine ⟨_, rfl, .inl ⟨rfl, _, .of hR⟩, _, rfl, _, rfl, by show 2 ≤ sizeLine; decide, fun p2 n2 => ?_⟩
          have s4 := same_new (o := .tup [hv l.other, hv l.one]) n2
          refine ⟨_, rfl, _, rfl, _, _, rfl, rfl, _, rfl, _, _, rfl, rfl, by show 2 ≤ sizeLine; decide, fun t2 m2 => ?_⟩
          have s5 := same_new (o := .tup [.ref p2, .int (m - l.heard + l.sent)]) m2
          have hR5 := s5 _ _ (s4 _ _ hR)
          refine ⟨R, _, _, rfl, rfl, hR5, by show 1 < sizeLine; decide, ?_⟩
          have hp2 : PrT _ p2 l.other l.one := s5 _ _ upd_same
          have ht2 := upd_same (H := upd H3 p2 (.tup [hv l.other, hv l.one])) (a := t2) (o := .tup [.ref p2, .int (m - l.heard + l.sent)])
          have s45 := s4.trans s5
          generalize upd (upd H3 p2 (.tup [hv l.other, hv l.one])) t2 (.tup [.ref p2, .int (m - l.heard + l.sent)]) = H5 at s45 hR5 hp2 ht2 ⊢
          have kt : KeepT H5 (upd H5 R (.lst ([.ref t1] ++ [.ref t2]))) := keepT_upd hR5 fun _ z => by cases z
          refine ⟨⟨_, _, rfl⟩, sameB_mut (sh.trans (sameB_of s45)) nRH, ?_, _, upd_same, .cons ⟨t1, p1, rfl, kt _ _ (s45 _ _ ht1), kt _ _ (s45 _ _ hp1)⟩ (.cons ⟨t2, p2, rfl, kt _ _ ht2, kt _ _ hp2⟩ .nil)⟩
          rw [upd_ne (ne_of (s45 _ _ hF3) hR5 fun z => by cases z)]
          exact s45 _ _ hF3
      · rintro σ' H4 ⟨⟨x10, x11, rfl⟩, sm4, hF4, ts, hR4, hts⟩
        refine ⟨_, rfl, R, rfl, ⟨_, .of hR4⟩, ?_⟩
        have FR : F ≠ R := ne_of hF4 hR4 fun z => by cases z
        refine for_list (xs := ts) (fun j σ' H' => (∃ x10 x11, σ' = [some (.ref r), some (.ref a), some (.ref F), some (hv l.one), some (.int l.sent), some (hv l.other), some (.int l.heard), some (.int (rd l.k).1), some (optI (rd l.k).2), some (.ref R), x10, x11]) ∧
          SameB F H4 H' ∧ TbAt hs H' F (rowsF ((ls.take i).foldl (fun d l => rowsF d (dRows rd l)) fun _ _ => none) ((dRows rd l).take j))) ⟨⟨_, _, rfl⟩, .refl, kvs, hF4, tF⟩ ?_ ?_ ?_
        · intro j σ' H' _ ⟨_, s, _⟩
          exact .of (s _ _ FR.symm hR4)
        · rintro j x σ' H' hx ⟨⟨x10, x11, rfl⟩, s', kv', hF', tF'⟩
          obtain ⟨rw1, hrw, t, p, rfl, ht, hp⟩ := pr_getL hts hx
          have tF : t ≠ F := ne_of ht hF4 fun z => by cases z
          have pF : p ≠ F := ne_of hp hF4 fun z => by cases z
          have ht' := s' _ _ tF ht
          have hp' := s' _ _ pF hp
          refine ⟨t, _, rfl, .of ht', rfl, _, _, rfl, _, _, rfl, rfl, ?_⟩
          have hij : rw1.1.1 ∈ hs ∧ rw1.1.2 ∈ hs := by
            have hk := hkh _ (hin l hm)
            have := mem_of j hrw
            unfold dRows at this
            split at this
            · simp at this; subst this; exact hk
            · simp at this
              rcases this with rfl | rfl
              · exact hk
              · exact ⟨hk.2, hk.1⟩
          have eg : ∀ (o : Option Int) (x : Int), (o.map V.int).getD (.int x) = .int (o.getD x) := fun o x => by cases o <;> rfl
          refine ⟨_, rfl, _, rfl, F, rfl, .inr ⟨_, .of hF'⟩, _, rfl, _, rfl, _, tb_get tF' hF' hp', _, _, by rw [eg], ?_⟩
          have tS := tb_shf (x := rw1.2) tF' hij.1 hij.2
          have lz : kv'.length < sizeLine := by
            have := tb_len tF'
            have : hs.length * hs.length ≤ 6 * 6 := Nat.mul_le_mul h6 h6
            exact small1000 (by omega)
          refine ⟨_, rfl, _, rfl, F, _, rfl, .inr ⟨kv', pk rw1.1.1 rw1.1.2, p, hF', rfl, hp', lz, rfl⟩, ⟨_, _, rfl⟩, s'.trans sameB_upd, ?_⟩
          unfold rowsF
          rw [foldl_take_succ hrw, minO_eq]
          exact ⟨_, upd_same, tS⟩
        · rintro σ' H' ⟨⟨x10, x11, rfl⟩, s', hT⟩
          refine ⟨⟨_, _, _, _, _, _, _, _, _, rfl⟩, sm4.trans s', ?_⟩
          rw [foldl_take_succ hl]
          rw [hts.length, List.take_length] at hT
          exact hT
    · rintro σ H2 ⟨⟨x3, x4, x5, x6, x7, x8, x9, x10, x11, rfl⟩, sm, hT⟩
      rw [hP.length, List.take_length] at hT
      exact ⟨_, rfl, q F H2 (sm.new nF) nF hT⟩
end
end K80

set_option maxHeartbeats 4000000
/-! least sums, rings -/
namespace K80
open PySem PySem.Spec L2
open PyProof.Rows hiding St
abbrev s_least_sums : Stmt := (topS 30)
theorem sc_least_sums : FnScope ["hands", "direct", "one", "other", "found", "mid", "first", "second", "now"] ["hands", "direct"] (defScope s_least_sums) := ⟨rfl, rfl, rfl, by decide +kernel, rfl, by decide +kernel, by decide +kernel⟩
section
variable {P : Program} {w : World} {K : PySem.W.Frag} {mg : Str → Option Value} {base : Heap}
/-! ### the table of all pairs -/
def oT (hs : List Nat) (f : Dm) : Nat → Nat → Option V := fun a b => if a ∈ hs ∧ b ∈ hs then some (optI (f a b)) else none
def up2 (f : Dm) (i j : Nat) (x : Int) : Dm := fun a b => if a = i ∧ b = j then some x else f a b
def fwStep (f : Dm) (mid one other : Nat) : Dm := match f one mid, f mid other with
  | some a, some b => (match f one other with
    | none => up2 f one other (a + b)
    | some c => if a + b < c then up2 f one other (a + b) else f)
  | _, _ => f
abbrev fwIn (hs : List Nat) (mid one : Nat) (f : Dm) : Dm := hs.foldl (fun f other => fwStep f mid one other) f
abbrev fwMid (hs : List Nat) (mid : Nat) (f : Dm) : Dm := hs.foldl (fun f one => fwIn hs mid one f) f
def least (hs : List Nat) (d : Dm) : Dm := hs.foldl (fun f mid => fwMid hs mid f) d
def FarAt (hs : List Nat) (H : Hp) (F : Addr) (f : Dm) : Prop := ∃ kvs, H F = some (.dT kvs) ∧ Tb hs (oT hs f) kvs
theorem tb_up2 {hs : List Nat} {f : Dm} {kvs : List (List Key × V)} {i j : Nat} {x : Int} (t : Tb hs (oT hs f) kvs) (hi : i ∈ hs) (hj : j ∈ hs) : Tb hs (oT hs (up2 f i j x)) (putK kvs (pk i j) (.int x)) := by
  have h := tb_put t (.int x) hi hj
  refine ⟨h.1, h.2.1, fun a b => ?_⟩
  rw [h.2.2]
  unfold oT up2
  by_cases c : a = i ∧ b = j
  · obtain ⟨rfl, rfl⟩ := c
    simp only [hi, hj, and_self, if_true]
    rfl
  · simp only [if_neg c]
/-- {(i, j): f i j for i in hs for j in hs} -/
theorem dcw2 {J : It} {H1 : Hp} {g g1 : TG} {tt tt1 : TT} {tk tv : TE} {wi1 : TI} {vs vs1 : List Nat} {σ : L2.St} {D : Addr} {Qd : Hp → Prop} {hs : List Nat} (f : Nat → Nat → V) (Z : Nat → L2.St → Prop) (wk : Wk J H1 hs (fun _ v u => v = hv u)) (h6 : hs.length ≤ 6)
    (turn0 : ∀ u ∈ hs, ∀ (H : Hp) (Qn : Hp → Prop) (R : L2.St → It → Hp → Prop), Same H1 H → (∀ σ2 J1 H4, Same H H4 → Z u σ2 → Wk J1 H1 hs (fun _ v u => v = hv u) → R σ2 J1 H4) →
      g (hv u) (wipe σ vs) H fun σ2 H2 => wipe σ2 vs = wipe σ vs ∧ tt σ2 H2 fun b H3 => if b = true then wi1 σ2 H3 (R σ2) else Qn H3)
    (turn1 : ∀ u ∈ hs, ∀ w ∈ hs, ∀ (σ2 : L2.St) (H : Hp) (Nx : Hp → Prop), Z u σ2 → Same H1 H → (∀ q H', Same H H' → PrT H' q u w → ∃ H3, DPut H' D (.ref q) (f u w) H3 ∧ Nx H3) →
      g1 (hv w) (wipe σ2 vs1) H fun σ3 H5 => wipe σ3 vs1 = wipe σ2 vs1 ∧ tt1 σ3 H5 fun b H6 => if b = true then tPutA D tk tv σ3 H6 Nx else Nx H6)
    (nD : H1 D = none) (fin : ∀ kvs H', Same H1 H' → H' D = some (.dT kvs) → Tb hs (fun a b => if a ∈ hs ∧ b ∈ hs then some (f a b) else none) kvs → Qd H') :
    ∃ W : Nat → Nat → Hp → Prop, (∃ m, W 0 m (upd H1 D (.dT []))) ∧ ∀ i m H, W i m H →
      (J.stop i H ∧ Qd H) ∨ (J.go i H ∧ ∃ Nx : Hp → Prop, (∀ H', Nx H' → ∃ m', m' < m ∧ W (i + 1) m' H') ∧ ∀ x H', J.yld i H x H' → g x (wipe σ vs) H' fun σ2 H2 => wipe σ2 vs = wipe σ vs ∧ tt σ2 H2 fun b H3 =>
        if b = true then wi1 σ2 H3 fun J1 H4 => ∃ W1 : Nat → Nat → Hp → Prop, (∃ m, W1 0 m H4) ∧ ∀ j k H, W1 j k H →
          (J1.stop j H ∧ Nx H) ∨ (J1.go j H ∧ ∃ N1 : Hp → Prop, (∀ H', N1 H' → ∃ k', k' < k ∧ W1 (j + 1) k' H') ∧ ∀ x H', J1.yld j H x H' → g1 x (wipe σ2 vs1) H' fun σ3 H5 => wipe σ3 vs1 = wipe σ2 vs1 ∧ tt1 σ3 H5 fun b H6 => if b = true then tPutA D tk tv σ3 H6 N1 else N1 H6)
        else Nx H3) := by
  let Pv : Nat → Hp → Prop := fun i H => Same H1 H ∧ ∃ kvs, H D = some (.dT kvs) ∧ Tb hs (fun a b => if a ∈ hs.take i ∧ b ∈ hs then some (f a b) else none) kvs
  have t0 : Tb hs (fun a b => if a ∈ hs.take 0 ∧ b ∈ hs then some (f a b) else none) [] := ⟨.nil, fun e h => by simp at h, fun i j => by simp [valV_nil]⟩
  refine ⟨fun i m H => i + m = hs.length ∧ Pv i H, ⟨hs.length, by omega, same_new nD, [], upd_same, t0⟩, fun i m H ⟨e, s, kvs, hD, hT⟩ => ?_⟩
  by_cases hi : i < hs.length
  · have hu := List.getElem?_eq_getElem hi
    obtain ⟨go, yl⟩ := wk.1 i _ H hu s
    refine .inr ⟨go, Pv (i + 1), fun H' hn => ⟨m - 1, by omega, by omega, hn⟩, fun x H0 hy => ?_⟩
    obtain ⟨s0, hx⟩ := yl x H0 hy
    subst hx
    refine turn0 hs[i] (List.getElem_mem hi) H0 _ _ (s.trans s0) fun σ2 J1 H4 s4 hZ wk1 => ?_
    let P1 : Nat → Hp → Prop := fun j H => Same H1 H ∧ ∃ kvs, H D = some (.dT kvs) ∧ Tb hs (fun a b => if (a ∈ hs.take i ∧ b ∈ hs) ∨ (a = hs[i] ∧ b ∈ hs.take j) then some (f a b) else none) kvs
    refine ⟨fun j k H => j + k = hs.length ∧ P1 j H, ⟨hs.length, by omega, (s.trans s0).trans s4, kvs, s4 _ _ (s0 _ _ hD), ?_⟩, fun j k H' ⟨e', s', kv', hD', hT'⟩ => ?_⟩
    · refine ⟨hT.1, hT.2.1, fun a b => ?_⟩
      rw [hT.2.2]
      simp
    · by_cases hj : j < hs.length
      · have hw := List.getElem?_eq_getElem hj
        obtain ⟨go1, yl1⟩ := wk1.1 j _ H' hw s'
        refine .inr ⟨go1, P1 (j + 1), fun H' hn => ⟨k - 1, by omega, by omega, hn⟩, fun z H5 hz1 => ?_⟩
        obtain ⟨s5, hz⟩ := yl1 z H5 hz1
        subst hz
        refine turn1 hs[i] (List.getElem_mem hi) hs[j] (List.getElem_mem hj) σ2 H5 _ hZ (s'.trans s5) fun q H6 s6 hq => ?_
        have hD6 : H6 D = some (.dT kv') := s6 _ _ (s5 _ _ hD')
        have lz : kv'.length < sizeLine := by
          have := tb_len hT'
          have : hs.length * hs.length ≤ 6 * 6 := Nat.mul_le_mul h6 h6
          exact small1000 (by omega)
        refine ⟨_, .inr ⟨kv', pk hs[i] hs[j], q, hD6, rfl, hq, lz, rfl⟩, same_mut ((s'.trans s5).trans s6) nD, _, upd_same, ?_⟩
        have t := tb_put hT' (f hs[i] hs[j]) (List.getElem_mem hi) (List.getElem_mem hj)
        refine ⟨t.1, t.2.1, fun a b => ?_⟩
        rw [t.2.2, take_succ' hw]
        show (if a = hs[i] ∧ b = hs[j] then some (f hs[i] hs[j]) else if (a ∈ hs.take i ∧ b ∈ hs) ∨ (a = hs[i] ∧ b ∈ hs.take j) then some (f a b) else none) = if (a ∈ hs.take i ∧ b ∈ hs) ∨ (a = hs[i] ∧ b ∈ hs.take j ++ [hs[j]]) then some (f a b) else none
        by_cases c : a = hs[i] ∧ b = hs[j]
        · rw [if_pos c]
          rw [if_pos (.inr ⟨c.1, List.mem_append_right _ (List.mem_singleton.mpr c.2)⟩), c.1, c.2]
        · rw [if_neg c]
          have : ((a ∈ hs.take i ∧ b ∈ hs) ∨ (a = hs[i] ∧ b ∈ hs.take j ++ [hs[j]])) ↔ ((a ∈ hs.take i ∧ b ∈ hs) ∨ (a = hs[i] ∧ b ∈ hs.take j)) := by
            constructor
            · rintro (h | ⟨h1, h2⟩)
              · exact .inl h
              · rcases List.mem_append.mp h2 with h | h
                · exact .inr ⟨h1, h⟩
                · simp at h; exact (c ⟨h1, h⟩).elim
            · rintro (h | ⟨h1, h2⟩)
              · exact .inl h
              · exact .inr ⟨h1, List.mem_append_left _ h2⟩
          simp only [this]
      · have : j = hs.length := by omega
        subst this
        refine .inl ⟨wk1.2 H' s', s', kv', hD', hT'.1, hT'.2.1, fun a b => ?_⟩
        rw [hT'.2.2, List.take_length, take_succ' hu]
        have : ((a ∈ hs.take i ∧ b ∈ hs) ∨ (a = hs[i] ∧ b ∈ hs)) ↔ (a ∈ hs.take i ++ [hs[i]] ∧ b ∈ hs) := by
          simp only [List.mem_append, List.mem_singleton]
          constructor
          · rintro (⟨h1, h2⟩ | ⟨h1, h2⟩)
            · exact ⟨.inl h1, h2⟩
            · exact ⟨.inr h1, h2⟩
          · rintro ⟨h1 | h1, h2⟩
            · exact .inl ⟨h1, h2⟩
            · exact .inr ⟨h1, h2⟩
        simp only [this]
  · have : i = hs.length := by omega
    subst this
    rw [List.take_length] at hT
    exact .inl ⟨wk.2 H s, fin kvs H s hD hT⟩
def spLS : Sp := fun vs H Q _ => ∃ (l D : Addr) (hs : List Nat) (d : Dm), vs = [.ref l, .ref D] ∧ H l = some (.lst (hs.map hv)) ∧ TbAt hs H D d ∧ hs.length ≤ 6 ∧ ∀ p H', Same H H' → H p = none → FarAt hs H' p (least hs d) → Q (.ref p) H'
theorem ok_ls (T : Txt K mg) : CallOk P w K mg base CX0 1 "least_sums" ["hands", "direct"] [] spLS := by
  refine def_ok (st := s_least_sums) T 18 16 rfl rfl sc_least_sums (fun _ _ _ _ _ _ us hl => match us, hl with | [_, _], _ => rfl) (fun vs H Q E h => ?_) (fun cdv f A outer s H vs Q E hr h => ?_)
  · obtain ⟨l, D, hs, d, rfl, _⟩ := h
    rfl
  · obtain ⟨l, E0, hs, d, rfl, hl, ⟨kd, hd, td⟩, h6, q⟩ := h
    refine ⟨_, PSs.nox (pss_cons (ps_setDcA2 (.dT []) (.inr rfl) (hu_of hr) (i := 4) (own := [("one", 2), ("other", 3)]) (vs1 := [3]) (by rfl) sc_least_sums.nd rfl rfl (sw_dict rfl rfl rfl (by decide +kernel)) (pi_listK (K := K) rfl (pv 0)) (blkOk_by (own := [("one", 2), ("other", 3)]) (N := ["hands", "direct", "one", "other", "found", "mid", "first", "second", "now"]) (sc := defScope (topS 30)) (by decide +kernel)) (by decide) (fun _ _ _ _ _ => (pg_name (i := 2) sc_least_sums.nd rfl (.inl rfl))) (fun _ _ _ _ _ => pts_nil) (fun _ _ _ _ _ => (pi_listK (K := K) rfl (pv 0))) (fun _ _ _ _ _ => (pg_name (i := 3) sc_least_sums.nd rfl (.inl rfl))) (fun _ _ _ _ _ => pts_nil) (fun _ _ _ _ _ => (pe_tup (pa_cons (pv 2) (pa_cons (pv 3) pa_nil)))) (fun _ _ _ _ _ => (pe_dget1 (hu_of hr) (pv 1) (pe_tup (pa_cons (pv 2) (pa_cons (pv 3) pa_nil))) ⟨rfl, rfl, rfl, rfl⟩)))
      (pss_cons (ps_for PassesOwn.never rfl (pi_listK (K := K) rfl (pv 0)) (pg_name (i := 5) sc_least_sums.nd rfl (.inl rfl))
      (pss_one (ps_for PassesOwn.never rfl (pi_listK (K := K) rfl (pv 0)) (pg_name (i := 2) sc_least_sums.nd rfl (.inl rfl))
      (pss_one (ps_for PassesOwn.never rfl (pi_listK (K := K) rfl (pv 0)) (pg_name (i := 3) sc_least_sums.nd rfl (.inl rfl))
      (pss_cons (ps_par3 (i := 6) (j := 7) (l := 8) (by rfl) sc_least_sums.nd rfl rfl rfl (by decide) (by decide) (by decide) rfl rfl rfl (pa_cons (pe_dget (hu_of hr) (pv 4) (pe_tup (pa_cons (pv 2) (pa_cons (pv 5) pa_nil))) (fun _ _ => rfl)) (pa_cons (pe_dget (hu_of hr) (pv 4) (pe_tup (pa_cons (pv 5) (pa_cons (pv 3) pa_nil))) (fun _ _ => rfl)) (pa_cons (pe_dget (hu_of hr) (pv 4) (pe_tup (pa_cons (pv 2) (pa_cons (pv 3) pa_nil))) (fun _ _ => rfl)) pa_nil))) (by rfl))
      (pss_one (ps_if (PW.pt (pw_and (pt_cmpR op_notN (pv 6) (pe_non) (nomark _)) (pw_and (pt_cmpR op_notN (pv 7) (pe_non) (nomark _)) (pw_and1 (PW.pt (pw_or (pt_cmpR op_isN (pv 8) (pe_non) (nomark _)) (pw_or1 (pt_cmpR op_lt (pe_op op_add (pv 6) (pv 7)) (pv 8) (nomark _))))))))) (pss_one (ps_dput (hu_of hr) (pv 4) (pe_tup (pa_cons (pv 2) (pa_cons (pv 3) pa_nil))) (pe_op op_add (pv 6) (pv 7)) rfl)) pss_nil))))))))
      (pss_one (ps_ret (pv 4))))), ?_⟩
    refine ⟨_, rfl, l, rfl, ⟨_, .of hl⟩, fun F nF => ?_⟩
    refine dcw2 (hs := hs) (fun a b => optI (d a b)) (fun u σ2 => ∃ x y z a b c, σ2 = [some (.ref l), some (.ref E0), some (hv u), x, y, z, a, b, c]) (wk_hands (.of hl)) h6 ?_ ?_ nF ?_
    · intro u hu H2 Qn R s2 k
      exact ⟨rfl, _, rfl, l, rfl, ⟨_, .of (s2 _ _ hl)⟩, k _ _ _ (.refl _) ⟨_, _, _, _, _, _, rfl⟩ (wk_hands (.of hl))⟩
    · rintro u hu w hw σ2 H2 Nx ⟨x, y, z, a, b, c, rfl⟩ s2 go
      refine ⟨rfl, _, rfl, _, rfl, by show 2 ≤ sizeLine; decide, fun p np => ?_⟩
      have sp := same_new (o := .tup [hv u, hv w]) np
      refine ⟨_, rfl, E0, rfl, .inr ⟨_, .of (sp _ _ (s2 _ _ hd))⟩, _, rfl, _, rfl, by show 2 ≤ sizeLine; decide, fun p2 n2 => ?_⟩
      have sp2 := same_new (o := .tup [hv u, hv w]) n2
      refine ⟨_, tb_get td (sp2 _ _ (sp _ _ (s2 _ _ hd))) upd_same, ?_⟩
      have e : (dI d u w).getD .non = optI (d u w) := by unfold dI; cases d u w <;> rfl
      rw [e]
      exact go p _ (sp.trans sp2) (sp2 _ _ upd_same)
    · intro kvs H2 s2 hF tF
      have nl : l ≠ F := ne_of_none hl nF
      refine ⟨_, rfl, l, rfl, ⟨_, .of (s2 _ _ hl)⟩, ?_⟩
      refine for_list (xs := hs.map hv) (fun i σ H' => (∃ x2 x3 x5 x6 x7 x8, σ = [some (.ref l), some (.ref E0), x2, x3, some (.ref F), x5, x6, x7, x8]) ∧ SameB F H H' ∧ FarAt hs H' F ((hs.take i).foldl (fun f mid => fwMid hs mid f) d))
        ⟨⟨_, _, _, _, _, _, rfl⟩, sameB_of s2, kvs, hF, tF⟩ (fun i σ H' _ h => .of (h.2.1 _ _ nl hl)) ?_ ?_
      · rintro i x σ Ha hx ⟨⟨x2, x3, x5, x6, x7, x8, rfl⟩, sa, fa⟩
        rw [List.getElem?_map] at hx
        obtain ⟨mid, hmid, rfl⟩ := Option.map_eq_some_iff.mp hx
        have mm : mid ∈ hs := mem_of i hmid
        refine ⟨_, rfl, l, rfl, ⟨_, .of (sa _ _ nl hl)⟩, ?_⟩
        refine for_list (xs := hs.map hv) (fun j σ H' => (∃ x2 x3 x6 x7 x8, σ = [some (.ref l), some (.ref E0), x2, x3, some (.ref F), some (hv mid), x6, x7, x8]) ∧ SameB F H H' ∧ FarAt hs H' F ((hs.take j).foldl (fun f one => fwIn hs mid one f) ((hs.take i).foldl (fun f mid => fwMid hs mid f) d)))
          ⟨⟨_, _, _, _, _, rfl⟩, sa, fa⟩ (fun i σ H' _ h => .of (h.2.1 _ _ nl hl)) ?_ ?_
        · rintro j x σ Hb hx ⟨⟨x2, x3, x6, x7, x8, rfl⟩, sb, fb⟩
          rw [List.getElem?_map] at hx
          obtain ⟨one, hone, rfl⟩ := Option.map_eq_some_iff.mp hx
          have mo : one ∈ hs := mem_of j hone
          refine ⟨_, rfl, l, rfl, ⟨_, .of (sb _ _ nl hl)⟩, ?_⟩
          refine for_list (xs := hs.map hv) (fun n σ H' => (∃ x3 x6 x7 x8, σ = [some (.ref l), some (.ref E0), some (hv one), x3, some (.ref F), some (hv mid), x6, x7, x8]) ∧ SameB F H H' ∧ FarAt hs H' F ((hs.take n).foldl (fun f other => fwStep f mid one other) ((hs.take j).foldl (fun f one => fwIn hs mid one f) ((hs.take i).foldl (fun f mid => fwMid hs mid f) d))))
            ⟨⟨_, _, _, _, rfl⟩, sb, fb⟩ (fun i σ H' _ h => .of (h.2.1 _ _ nl hl)) ?_ ?_
          · rintro n x σ Hc hx ⟨⟨x3, x6, x7, x8, rfl⟩, sc, kv, hkv, tk⟩
            rw [List.getElem?_map] at hx
            obtain ⟨other, hother, rfl⟩ := Option.map_eq_some_iff.mp hx
            have mt : other ∈ hs := mem_of n hother
            rw [foldl_take_succ hother]
            generalize (hs.take n).foldl (fun f other => fwStep f mid one other) ((hs.take j).foldl (fun f one => fwIn hs mid one f) ((hs.take i).foldl (fun f mid => fwMid hs mid f) d)) = fc at tk ⊢
            have lz : kv.length < sizeLine := by
              have := tb_len tk
              have : hs.length * hs.length ≤ 6 * 6 := Nat.mul_le_mul h6 h6
              exact small1000 (by omega)
            have eo : ∀ a b, a ∈ hs → b ∈ hs → oT hs fc a b = some (optI (fc a b)) := fun a b ha hb => if_pos ⟨ha, hb⟩
            have gt : ∀ {H' : Hp} {q : Addr} {a b : Nat}, H' F = some (.dT kv) → PrT H' q a b → a ∈ hs → b ∈ hs → DGet H' F (.ref q) (some (optI (fc a b))) := fun h1 h2 ha hb => eo _ _ ha hb ▸ tb_get tk h1 h2
            refine ⟨_, rfl, _, rfl, _, rfl, by show 2 ≤ sizeLine; decide, fun p1 n1 => ⟨F, optI (fc one mid), rfl, gt ?_ upd_same mo mm, ?_⟩⟩
            · rw [upd_ne (ne_of_none hkv n1)]; exact hkv
            have e1 := same_new (o := .tup [hv one, hv mid]) n1
            generalize upd Hc p1 (.tup [hv one, hv mid]) = Hd at e1
            refine ⟨_, rfl, _, rfl, _, rfl, by show 2 ≤ sizeLine; decide, fun p2 n2 => ⟨F, optI (fc mid other), rfl, gt ?_ upd_same mm mt, ?_⟩⟩
            · rw [upd_ne (ne_of_none (e1 _ _ hkv) n2)]; exact e1 _ _ hkv
            have e2 := e1.trans (same_new (o := .tup [hv mid, hv other]) n2)
            generalize upd Hd p2 (.tup [hv mid, hv other]) = He at e2
            refine ⟨_, rfl, _, rfl, _, rfl, by show 2 ≤ sizeLine; decide, fun p3 n3 => ⟨F, optI (fc one other), rfl, gt ?_ upd_same mo mt, ?_⟩⟩
            · rw [upd_ne (ne_of_none (e2 _ _ hkv) n3)]; exact e2 _ _ hkv
            have e3 := e2.trans (same_new (o := .tup [hv one, hv other]) n3)
            generalize upd He p3 (.tup [hv one, hv other]) = Hf at e3
            have hkf := e3 _ _ hkv
            have sf := sc.trans (sameB_of e3)
            refine ⟨_, _, _, rfl, ?_⟩
            have fin0 : fwStep fc mid one other = fc → FarAt hs Hf F (fwStep fc mid one other) := fun e => by rw [e]; exact ⟨kv, hkf, tk⟩
            have put : ∀ v q, fwStep fc mid one other = up2 fc one other v → Hf q = none → ∃ H4, DPut (upd Hf q (.tup [hv one, hv other])) F (.ref q) (.int v) H4 ∧ SameB F H H4 ∧ FarAt hs H4 F (fwStep fc mid one other) := by
              intro v q e nq
              have hq := e3 _ _ hkv
              refine ⟨_, .inr ⟨kv, pk one other, q, by rw [upd_ne (ne_of_none hkf nq)]; exact hkf, rfl, upd_same, lz, rfl⟩, (sf.trans (sameB_of (same_new nq))).trans sameB_upd, ?_⟩
              rw [e]
              exact ⟨_, upd_same, tb_up2 tk mo mt⟩
            cases h1 : fc one mid with
            | none => exact ⟨_, rfl, rfl, _, rfl, ⟨_, _, _, _, rfl⟩, sf, fin0 (by unfold fwStep; rw [h1])⟩
            | some a =>
              refine ⟨_, rfl, rfl, _, rfl, ?_⟩
              cases h2 : fc mid other with
              | none => exact ⟨_, rfl, rfl, _, rfl, ⟨_, _, _, _, rfl⟩, sf, fin0 (by unfold fwStep; rw [h1, h2])⟩
              | some b =>
                refine ⟨_, rfl, rfl, _, rfl, ?_⟩
                cases h3 : fc one other with
                | none =>
                  refine ⟨_, rfl, rfl, _, rfl, _, rfl, _, rfl, _, _, rfl, rfl, _, rfl, _, rfl, _, rfl, by show 2 ≤ sizeLine; decide, fun q nq => ?_⟩
                  obtain ⟨H4, g, s4, f4⟩ := put (a + b) q (by unfold fwStep; rw [h1, h2, h3]) nq
                  exact ⟨F, H4, rfl, g, ⟨_, _, _, _, rfl⟩, s4, f4⟩
                | some c =>
                  refine ⟨_, rfl, rfl, _, rfl, _, rfl, _, rfl, _, _, rfl, rfl, _, rfl, _, _, rfl, rfl, _, rfl, ?_⟩
                  by_cases lt : a + b < c
                  · rw [decide_eq_true lt]
                    refine ⟨_, rfl, _, rfl, _, _, rfl, rfl, _, rfl, _, rfl, _, rfl, by show 2 ≤ sizeLine; decide, fun q nq => ?_⟩
                    obtain ⟨H4, g, s4, f4⟩ := put (a + b) q (by unfold fwStep; rw [h1, h2, h3]; exact if_pos lt) nq
                    exact ⟨F, H4, rfl, g, ⟨_, _, _, _, rfl⟩, s4, f4⟩
                  · rw [decide_eq_false lt]
                    exact ⟨⟨_, _, _, _, rfl⟩, sf, fin0 (by unfold fwStep; rw [h1, h2, h3]; exact if_neg lt)⟩
          · rintro σ' Hc ⟨⟨x3, x6, x7, x8, rfl⟩, sc, fc⟩
            rw [List.length_map, List.take_length] at fc
            rw [foldl_take_succ hone]
            exact ⟨⟨_, _, _, _, _, rfl⟩, sc, fc⟩
        · rintro σ' Hb ⟨⟨x2, x3, x6, x7, x8, rfl⟩, sb, fb⟩
          rw [List.length_map, List.take_length] at fb
          rw [foldl_take_succ hmid]
          exact ⟨⟨_, _, _, _, _, _, rfl⟩, sb, fb⟩
      · rintro σ' Ha ⟨⟨x2, x3, x5, x6, x7, x8, rfl⟩, sa, fa⟩
        rw [List.length_map, List.take_length] at fa
        exact ⟨_, rfl, q F Ha (sa.new nF) nF fa⟩
end
end K80

set_option maxHeartbeats 4000000
/-! rings -/
namespace K80
open PySem PySem.Spec L2
open PyProof.Rows hiding St
abbrev s_all_rings : Stmt := (topS 31)
theorem sc_all_rings : FnScope ["hands", "found", "level", "hand", "row"] ["hands"] (defScope s_all_rings) := ⟨rfl, rfl, rfl, by decide +kernel, rfl, by decide +kernel, by decide +kernel⟩
abbrev s_ring_sum : Stmt := (topS 32)
theorem sc_ring_sum : FnScope ["ring", "shifts", "steps", "pair"] ["ring", "shifts"] (defScope s_ring_sum) := ⟨rfl, rfl, rfl, by decide +kernel, rfl, by decide +kernel, by decide +kernel⟩
section
variable {P : Program} {w : World} {K : PySem.W.Frag} {mg : Str → Option Value} {base : Heap}
/-! ### the rows of hands -/
def rowP (row : List Nat) (h : Nat) : Bool := decide (row.headD 0 < h) && !decide (h ∈ row)
def nextLv (hs : List Nat) (lv : List (List Nat)) : List (List Nat) := lv.flatMap fun row => (hs.filter (rowP row)).map fun h => row ++ [h]
def lvl (hs : List Nat) : Nat → List (List Nat)
  | 0 => hs.map fun h => [h]
  | k + 1 => nextLv hs (lvl hs k)
def ringsN (hs : List Nat) (n : Nat) : List (List Nat) := (List.range n).flatMap fun k => lvl hs (k + 1)
def rings (hs : List Nat) : List (List Nat) := ringsN hs hs.length
theorem ringsN_succ (hs : List Nat) (n : Nat) : ringsN hs (n + 1) = ringsN hs n ++ lvl hs (n + 1) := by
  unfold ringsN
  rw [List.range_succ, List.flatMap_append]
  simp
theorem lvl_row {hs : List Nat} : ∀ {k : Nat} {row : List Nat}, row ∈ lvl hs k → row.length = k + 1 ∧ row.Nodup ∧ ∀ h ∈ row, h ∈ hs
  | 0, row, h => by
    obtain ⟨a, ha, rfl⟩ := List.mem_map.mp h
    exact ⟨rfl, by simp, fun x hx => by simp at hx; exact hx ▸ ha⟩
  | k + 1, row, h => by
    obtain ⟨r, hr, h2⟩ := List.mem_flatMap.mp h
    obtain ⟨x, hx, rfl⟩ := List.mem_map.mp h2
    obtain ⟨hx1, hx2⟩ := List.mem_filter.mp hx
    obtain ⟨l1, l2, l3⟩ := lvl_row hr
    have hn : x ∉ r := by
      unfold rowP at hx2
      simp at hx2
      exact hx2.2
    refine ⟨by simp [l1], ?_, fun y hy => ?_⟩
    · refine List.nodup_append.mpr ⟨l2, by simp, fun a ha b hb e => ?_⟩
      simp at hb
      subst hb
      subst e
      exact hn ha
    · rcases List.mem_append.mp hy with z | z
      · exact l3 y z
      · simp at z; exact z ▸ hx1
theorem lvl_nil {hs : List Nat} : lvl hs hs.length = [] := by
  cases h : lvl hs hs.length with
  | nil => rfl
  | cons r t =>
    have hr : r ∈ lvl hs hs.length := by rw [h]; exact List.mem_cons_self
    obtain ⟨l1, l2, l3⟩ := lvl_row hr
    have := nodup_le l2 l3
    omega
theorem lvl_stay {hs : List Nat} {k : Nat} (h : lvl hs k = []) : ∀ j, k ≤ j → lvl hs j = []
  | 0, hj => by have : k = 0 := by omega
                subst this
                exact h
  | j + 1, hj => by
    by_cases c : k = j + 1
    · subst c; exact h
    · show nextLv hs (lvl hs j) = []
      rw [lvl_stay h j (by omega)]
      rfl
theorem lvl_len {hs : List Nat} : ∀ k, (lvl hs k).length ≤ hs.length ^ (k + 1)
  | 0 => by simp [lvl]
  | k + 1 => by
    show (nextLv hs (lvl hs k)).length ≤ _
    unfold nextLv
    rw [List.length_flatMap]
    have : ∀ l : List (List Nat), (l.map fun row => ((hs.filter (rowP row)).map fun h => row ++ [h]).length).sum ≤ l.length * hs.length := by
      intro l
      induction l with
      | nil => simp
      | cons r l ih =>
        have := List.length_filter_le (rowP r) hs
        simp only [List.map_cons, List.sum_cons, List.length_map, List.length_cons, Nat.succ_mul]
        simp only [List.length_map] at ih
        omega
    refine Nat.le_trans (this _) ?_
    rw [Nat.pow_succ]
    exact Nat.mul_le_mul_right _ (lvl_len k)
theorem rings_of {hs : List Nat} {k : Nat} (hk : k ≤ hs.length) (h : lvl hs k = []) : ringsN hs k = rings hs := by
  have : ∀ j, k ≤ j → ringsN hs j = ringsN hs k := by
    intro j
    induction j with
    | zero => intro hj; have : k = 0 := by omega
              rw [this]
    | succ j ih =>
      intro hj
      by_cases c : k = j + 1
      · rw [c]
      · rw [ringsN_succ, lvl_stay h (j + 1) hj, List.append_nil, ih (by omega)]
  exact (this _ hk).symm
/-- a tuple of the items f u -/
abbrev IsT {α : Type} (f : α → List V) (H : Hp) (v : V) (u : α) : Prop := ∃ b, v = .ref b ∧ H b = some (.tup (f u))
theorem isT_keep {α : Type} (f : α → List V) (H H' : Hp) (v : V) (u : α) (k : KeepT H H') (h : IsT f H v u) : IsT f H' v u := let ⟨b, e, z⟩ := h; ⟨b, e, k b _ z⟩
theorem isT_same {α : Type} (f : α → List V) (H H' : Hp) (v : V) (u : α) (k : Same H H') (h : IsT f H v u) : IsT f H' v u := let ⟨b, e, z⟩ := h; ⟨b, e, k b _ z⟩
def RowsAt (H : Hp) (p : Addr) (rows : List (List Nat)) : Prop := ∃ xs, H p = some (.lst xs) ∧ Paired (IsT (fun r : List Nat => r.map hv) H) xs rows
abbrev dRow (r : List Nat) : PyData := .tuple (r.map fun h => .str (nm h))
theorem sh_nm {h : Nat} (h6 : h < 6) : Sh 0 (.str (nm h)) := by
  have : ∀ h, h < 6 → PyData.strOk (nm h) = true := by decide +kernel
  exact ⟨by simp [PyData.canLay0, this h h6], by simp [PyData.depth]⟩
theorem sh_row {r : List Nat} (h6 : ∀ h ∈ r, h < 6) : Sh 1 (dRow r) := sh_tup fun d hd => by
  obtain ⟨h, hh, rfl⟩ := List.mem_map.mp hd
  exact sh_nm (h6 h hh)
theorem dpAll_pr {α : Type} {H : Hp} {F : V → α → Prop} {d : α → PyData} {xs : List V} {l : List α} (h : Paired F xs l) (k : ∀ v x, F v x → Dp K H v (d x)) : DpAll K H xs (l.map d) := by
  induction h with
  | nil => exact .nil
  | cons h _ ih => exact .cons (k _ _ h) ih
theorem dp_row {H : Hp} {b : Addr} {r : List Nat} (h : H b = some (.tup (r.map hv))) : Dp K H (.ref b) (dRow r) := .tup (.of h) (dpAll_map fun x _ => .str _)
def spAR : Sp := fun vs H Q _ => ∃ (l : Addr) (hs : List Nat), vs = [.ref l] ∧ H l = some (.lst (hs.map hv)) ∧ (∀ h ∈ hs, h < 6) ∧ hs.length ≤ 5 ∧ ∀ p H', Same H H' → H p = none → RowsAt H' p (rings hs) → Q (.ref p) H'
theorem ok_ar (T : Txt K mg) : CallOk P w K mg base CX0 1 "all_rings" ["hands"] [] spAR := by
  refine def_ok (st := s_all_rings) T 19 17 rfl rfl sc_all_rings (fun _ _ _ _ _ _ us hl => match us, hl with | [_], _ => rfl) (fun vs H Q E h => ?_) (fun cdv f A outer s H vs Q E hr h => ?_)
  · obtain ⟨l, hs, rfl, _⟩ := h
    rfl
  · obtain ⟨l, hs, rfl, hl, h6, h5, q⟩ := h
    refine ⟨_, PSs.nox (pss_cons (ps_par (i := 1) (j := 2) (by rfl) sc_all_rings.nd rfl rfl (by decide) rfl rfl (pa_cons (pe_lst pa_nil) (pa_cons (pe_lc (own := [("hand", 3)]) (by rfl) sc_all_rings.nd (pi_listK (K := K) rfl (pv 0)) (blkOk_by (own := [("hand", 3)]) (N := ["hands", "found", "level", "hand", "row"]) (sc := defScope (topS 31)) (by decide +kernel)) (fun _ _ _ _ _ => (pg_name (i := 3) sc_all_rings.nd rfl (.inl rfl))) (fun _ _ _ _ _ => pts_nil) (fun _ _ _ _ _ => (pe_tup (pa_cons (pv 3) pa_nil)))) pa_nil)) (by rfl))
      (pss_cons (ps_while PassesOwn.never (pt_cmpR (op_neDK (K := K) rfl (deep64 hr)) (pv 2) (pe_lst pa_nil) (nomark _))
      (pss_cons (ps_setLc2 (i := 2) (own := [("row", 4), ("hand", 3)]) (vs1 := [3]) (by rfl) sc_all_rings.nd rfl rfl (sw_true rfl rfl rfl (by decide +kernel)) (pi_listK (K := K) rfl (pv 2)) (blkOk_by (own := [("row", 4), ("hand", 3)]) (N := ["hands", "found", "level", "hand", "row"]) (sc := defScope (topS 31)) (by decide +kernel)) (by decide) (fun _ _ _ _ _ => (pg_name (i := 4) sc_all_rings.nd rfl (.inl rfl))) (fun _ _ _ _ _ => pts_nil) (fun _ _ _ _ _ => (pi_listK (K := K) rfl (pv 0))) (fun _ _ _ _ _ => (pg_name (i := 3) sc_all_rings.nd rfl (.inl rfl))) (fun _ _ _ _ _ => pts_one (PW.pt (pw_and (pt_cmpR op_gt_str (pv 3) (pe_ix (ix_tupK (K := K) rfl) (pv 4) (pe_int) (fun _ _ => rfl)) (nomark _)) (pw_and1 (pt_cmpR (op_niK (K := K) rfl) (pv 3) (pv 4) (by rfl)))))) (fun _ _ _ _ _ => (pe_op (op_catK (K := K) rfl) (pv 4) (pe_tup (pa_cons (pv 3) pa_nil)))))
      (pss_one (ps_expr (pe_bmK (K := K) rfl PySem.F.plainAttrs_list PySem.F.slot_list_extend PySem.F.type_list_extend mt_extend (pv 1) (pa_cons (pv 2) pa_nil))))))
      (pss_one (ps_ret (pv 1))))), ?_⟩
    refine ⟨by decide, fun F nF => ?_⟩
    have sF := same_new (o := .lst []) nF
    refine ⟨_, rfl, l, rfl, ⟨_, .of (sF _ _ hl)⟩, fun D nD => ?_⟩
    refine lcw (us := hs) (fun _ v u => v = hv u) (IsT fun r : List Nat => r.map hv) (fun _ => true) (fun h => [h]) (wk_hands (.of (sF _ _ hl))) (isT_keep _) (Nat.le_trans h5 (by decide)) ?_ nD ?_
    · rintro i _ u H2 QF QT hu rfl s2 _ qt
      exact ⟨rfl, _, rfl, by show 1 ≤ sizeLine; decide, fun p np => qt rfl _ _ (same_new np) ⟨p, rfl, upd_same⟩⟩
    · intro ys H2 s2 hD hP
      rw [filter_all] at hP
      have hF2 := s2 _ _ (upd_same (H := H) (a := F) (o := .lst []))
      refine ⟨_, _, rfl, fun m σ H' => ∃ k L x3 x4, m + k = hs.length ∧ σ = [some (.ref l), some (.ref F), some (.ref L), x3, x4] ∧ SameB F H H' ∧ L ≠ F ∧ RowsAt H' L (lvl hs k) ∧ RowsAt H' F (ringsN hs k), ⟨hs.length, 0, D, _, _, rfl, rfl, sameB_of (sF.trans s2), ?_, ⟨ys, hD, hP⟩, [], hF2, .nil⟩, ?_⟩
      · exact (ne_of_none upd_same nD).symm
      · rintro m σ H3 ⟨k, L, x3, x4, ek, rfl, s3, nL, ⟨xl, hL, pL⟩, ⟨xf, hF, pF⟩⟩
        refine ⟨_, rfl, by show 0 ≤ sizeLine; decide, fun p np => ?_⟩
        have sp := same_new (o := .lst []) np
        refine ⟨.list ((lvl hs k).map dRow), .list [], .lst (.of (sp _ _ hL)) (dpAll_pr pL fun v r ⟨b, e, h⟩ => by rw [e]; exact dp_row (sp _ _ h)), .lst (.of upd_same) .nil, (sh_list (n := 1) fun d hd => ?_).shaped (by decide), (sh_list (n := 0) fun d hd => by cases hd).shaped (by decide), _, rfl, ?_⟩
        · obtain ⟨r, hr, rfl⟩ := List.mem_map.mp hd
          exact sh_row fun h hh => h6 h ((lvl_row hr).2.2 h hh)
        generalize upd H3 p (.lst []) = H4 at sp
        have s4 := s3.trans (sameB_of sp)
        have hl4 := s4 _ _ (ne_of_none hl nF) hl
        cases hv0 : lvl hs k with
        | nil =>
          have e : (!PyData.eqv (.list (([] : List (List Nat)).map dRow)) (.list [])) = false := by simp [PyData.eqv, PyData.eqvAll]
          rw [e]
          have hr := rings_of (by omega) hv0
          rw [hr] at pF
          exact ⟨_, rfl, q F H4 (s4.new nF) nF ⟨xf, sp _ _ hF, pr_mono pF fun v r h => isT_same _ _ _ _ _ sp h⟩⟩
        | cons r0 t0 =>
          have e : (!PyData.eqv (.list ((r0 :: t0).map dRow)) (.list [])) = true := by simp [PyData.eqv, PyData.eqvAll]
          rw [e]
          have k1 : k < hs.length := by
            rcases Nat.lt_or_ge k hs.length with h | h
            · exact h
            · have : k = hs.length := by omega
              rw [this, lvl_nil] at hv0
              cases hv0
          refine ⟨_, fun σ' H' h => ⟨m - 1, by omega, h⟩, ?_⟩
          refine ⟨_, rfl, L, rfl, ⟨_, .of (sp _ _ hL)⟩, fun D2 nD2 => ?_⟩
          have rows1 : ∀ {i : Nat} {u : List Nat}, (lvl hs k)[i]? = some u → u.length = k + 1 := fun hu => (lvl_row (mem_of _ hu)).1
          refine lcw2 (us := lvl hs k) (ws := hs) (IsT fun r : List Nat => r.map hv) (fun _ v u => v = hv u) (IsT fun r : List Nat => r.map hv) (fun _ v σ2 => σ2 = [some (.ref l), some (.ref F), some (.ref L), none, some v]) rowP (fun r h => r ++ [h])
            (wk_list (.of (sp _ _ hL)) (pr_mono pL fun v r h => isT_same _ _ _ _ _ sp h) (isT_same _)) (isT_keep _) (isT_keep _) ?_ ?_ ?_ nD2 ?_
          · have h1 := lvl_len (hs := hs) k
            have h2 : hs.length ^ (k + 1) ≤ 5 ^ (k + 1) := Nat.pow_le_pow_left h5 _
            have h3 : 5 ^ (k + 1) ≤ 5 ^ 5 := Nat.pow_le_pow_right (by decide) (by omega)
            have h4 : (lvl hs k).length * hs.length ≤ 5 ^ 5 * 5 := Nat.mul_le_mul (by omega) h5
            exact Nat.le_trans h4 (by decide)
          · rintro i x u H5 Qn R hu hA s5 kk
            exact ⟨rfl, _, rfl, l, rfl, ⟨_, .of (s5 _ _ hl4)⟩, kk _ _ _ (.refl _) rfl (wk_hands (.of hl4))⟩
          · rintro i u x σ2 z w H5 QF QT hu rfl hw ⟨b, rfl, hb⟩ rfl s5 qf qt
            have hu1 := rows1 hu
            have ha : atI (u.map hv) (0 : Int) = some (hv (u.headD 0)) := by
              cases u with
              | nil => cases hu1
              | cons a r => exact atI_nat (j := 0) rfl
            refine ⟨rfl, _, rfl, _, rfl, b, u.map hv, 0, _, rfl, rfl, .of hb, ha, _, _, rfl, rfl, _, rfl, ?_⟩
            have e1 : decide ((nm (u.headD 0)).cps.toList < (nm w).cps.toList) = decide (u.headD 0 < w) := by simp only [nm_lt]
            rw [e1]
            by_cases c1 : u.headD 0 < w
            · rw [decide_eq_true c1]
              refine ⟨_, rfl, _, rfl, b, u.map hv, rfl, .inr (.of hb), rfl, flat_hv u, _, rfl, ?_⟩
              rw [if_pos rfl, inV_hv]
              have hp : rowP u w = !decide (w ∈ u) := by unfold rowP; rw [decide_eq_true c1, Bool.true_and]
              rw [← hp]
              cases hc : rowP u w with
              | false => exact qf hc _ (.refl _)
              | true =>
                refine ⟨_, rfl, _, rfl, by show 1 ≤ sizeLine; decide, fun p1 n1 => ?_⟩
                have s6 := same_new (o := .tup [hv w]) n1
                have ule : u.length ≤ 5 := by omega
                refine ⟨b, p1, u.map hv, [hv w], rfl, rfl, .of (s6 _ _ hb), .of upd_same, Nat.le_trans (by show (u.map hv).length + 1 ≤ 6; rw [List.length_map]; omega) (by decide : 6 ≤ sizeLine), fun z => ?_, (fun _ z => nomatch z), fun _ _ p2 n2 => qt hc _ _ (s6.trans (same_new n2)) ⟨p2, rfl, ?_⟩⟩
                · cases u with
                  | nil => cases hu1
                  | cons a r => cases z
                · rw [upd_same]
                  show some (HO.tup (u.map hv ++ [hv w])) = some (HO.tup ((u ++ [w]).map hv))
                  rw [List.map_append]
                  rfl
            · rw [decide_eq_false c1]
              have hc : rowP u w = false := by unfold rowP; rw [decide_eq_false c1, Bool.false_and]
              exact qf hc _ (.refl _)
          · intro ys H5 s5 hD5 hP5
            have hF5 := s5 _ _ (sp _ _ hF)
            have nF2 : D2 ≠ F := (ne_of_none (sp _ _ hF) nD2).symm
            have lenr : xf.length + ys.length ≤ sizeLine := by
              rw [pF.length, hP5.length]
              have h1 : ∀ n, n ≤ 5 → (ringsN hs n).length ≤ n * 15625 := by
                intro n
                induction n with
                | zero => intro _; exact Nat.le_refl _
                | succ n ih =>
                  intro hn
                  rw [ringsN_succ, List.length_append]
                  have h1 : (lvl hs (n + 1)).length ≤ hs.length ^ (n + 2) := lvl_len (hs := hs) (n + 1)
                  have h2 : hs.length ^ (n + 2) ≤ 5 ^ (n + 2) := Nat.pow_le_pow_left h5 _
                  have h3 : 5 ^ (n + 2) ≤ 5 ^ 6 := Nat.pow_le_pow_right (by decide) (by omega)
                  have h4 : (5 : Nat) ^ 6 = 15625 := by decide
                  have := ih (by omega)
                  rw [Nat.succ_mul]
                  omega
              have h2 := h1 (k + 1) (by omega)
              rw [ringsN_succ, List.length_append] at h2
              have h3 : (k + 1) * 15625 ≤ 5 * 15625 := Nat.mul_le_mul_right _ (by omega)
              have h4 : (lvl hs k).flatMap (fun u => (hs.filter (rowP u)).map fun h => u ++ [h]) = lvl hs (k + 1) := rfl
              rw [h4]
              exact Nat.le_trans (Nat.le_trans h2 h3) (by decide)
            refine ⟨_, rfl, .inl ⟨rfl, _, .of hF5⟩, _, rfl, F, D2, xf, ys, rfl, rfl, hF5, hD5, lenr, k + 1, D2, _, _, by omega, rfl, (s4.trans (sameB_of s5)).trans sameB_upd, nF2, ?_, ?_⟩
            · have kt : KeepT H5 (upd H5 F (.lst (xf ++ ys))) := keepT_upd hF5 fun _ z => by cases z
              exact ⟨ys, by rw [upd_ne nF2]; exact hD5, pr_mono hP5 fun v r h => isT_keep _ _ _ _ _ kt h⟩
            · have kt : KeepT H5 (upd H5 F (.lst (xf ++ ys))) := keepT_upd hF5 fun _ z => by cases z
              rw [ringsN_succ]
              exact ⟨_, upd_same, pr_app (pr_mono pF fun v r h => isT_keep _ _ _ _ _ kt (isT_same _ _ _ _ _ (sp.trans s5) h)) (pr_mono hP5 fun v r h => isT_keep _ _ _ _ _ kt h)⟩
/-! ### sums round a ring -/
def GetAt (hs : List Nat) (H : Hp) (F : Addr) (f : Dm) : Prop := ∃ kvs, H F = some (.dT kvs) ∧ ∀ i j, i ∈ hs → j ∈ hs → (valV kvs (pk i j)).getD .non = optI (f i j)
theorem GetAt.same {hs : List Nat} {H H' : Hp} {F : Addr} {f : Dm} (s : Same H H') (g : GetAt hs H F f) : GetAt hs H' F f := let ⟨k, e, h⟩ := g; ⟨k, s _ _ e, h⟩
theorem getAt_tb {hs : List Nat} {H : Hp} {F : Addr} {d : Dm} (t : TbAt hs H F d) : GetAt hs H F d := let ⟨k, e, h⟩ := t; ⟨k, e, fun i j _ _ => by rw [h.2.2]; unfold dI; cases d i j <;> rfl⟩
theorem getAt_far {hs : List Nat} {H : Hp} {F : Addr} {d : Dm} (t : FarAt hs H F d) : GetAt hs H F d := let ⟨k, e, h⟩ := t; ⟨k, e, fun i j hi hj => by rw [h.2.2]; unfold oT; rw [if_pos ⟨hi, hj⟩]; rfl⟩
theorem GetAt.get {hs : List Nat} {H : Hp} {F q : Addr} {f : Dm} {i j : Nat} (g : GetAt hs H F f) (hi : i ∈ hs) (hj : j ∈ hs) (hq : PrT H q i j) : IsD H F ∧ ∃ o, DGet H F (.ref q) o ∧ o.getD .non = optI (f i j) :=
  let ⟨k, e, h⟩ := g; ⟨.inr ⟨k, .of e⟩, _, DGet.t (k := pk i j) e hq, h i j hi hj⟩
def rsteps (f : Dm) (r : List Nat) : List (Option Int) := (r.zip (r.drop 1 ++ r.take 1)).map fun p => f p.1 p.2
def rsum (f : Dm) (r : List Nat) : Option Int := if none ∈ rsteps f r then none else some ((rsteps f r).map (·.getD 0)).sum
theorem inV_none (l : List (Option Int)) : inV .non (l.map optI) = decide (none ∈ l) := by
  induction l with
  | nil => rfl
  | cons a r ih =>
    unfold inV at *
    rw [List.map_cons, List.any_cons, ih]
    cases a with
    | none => simp [optI, eqV]
    | some x => simp [optI, eqV]
theorem flat_opt (l : List (Option Int)) : (l.map optI).all flatV = true := by
  rw [List.all_map, List.all_eq_true]
  intro x _
  cases x <;> rfl
theorem opt_ints {l : List (Option Int)} (h : none ∉ l) : l.map optI = (l.map (·.getD 0)).map V.int := by
  induction l with
  | nil => rfl
  | cons a r ih =>
    cases a with
    | none => exact (h List.mem_cons_self).elim
    | some x =>
      rw [List.map_cons, ih fun z => h (List.mem_cons_of_mem _ z)]
      rfl
theorem cut_drop1 (xs : List V) (h : 1 ≤ xs.length) : cutV xs (some 1) none = xs.drop 1 := by
  have e1 : HT.sIx xs.length 0 (some 1) = 1 := by
    have := HT.sIx_nat xs.length 0 1
    rw [Nat.min_eq_left h] at this
    exact this
  unfold cutV
  rw [e1, HT.sIx_none]
  exact List.take_of_length_le (by rw [List.length_drop]; omega)
theorem cut_take (xs : List V) (k : Nat) (h : k ≤ xs.length) : cutV xs none (some (k : Int)) = xs.take k := by
  unfold cutV
  rw [HT.sIx_nat, HT.sIx_none, Nat.min_eq_left h]
  rfl
theorem wk_zipT {H1 : Hp} {a b : Addr} {r r2 : List Nat} (ha : SqT K H1 a (r.map hv)) (hb : SqT K H1 b (r2.map hv)) (hl : r.length = r2.length) : Wk (ItZ (SqT K) a b) H1 (r.zip r2) IsPr := by
  refine ⟨fun i u H hu s => ?_, fun H s => ⟨_, _, same_t s ha, same_t s hb, .inl (by rw [List.length_map, List.length_zip]; omega)⟩⟩
  rw [List.getElem?_zip_eq_some] at hu
  have h1 : (r.map hv)[i]? = some (hv u.1) := by rw [List.getElem?_map, hu.1]; rfl
  have h2 : (r2.map hv)[i]? = some (hv u.2) := by rw [List.getElem?_map, hu.2]; rfl
  refine ⟨⟨_, _, _, _, same_t s ha, same_t s hb, h1, h2⟩, ?_⟩
  rintro y H' ⟨T, x, z, rfl, nT, rfl, k1, k2⟩
  have e1 := k1 _ (same_t s ha)
  have e2 := k2 _ (same_t s hb)
  rw [h1] at e1
  rw [h2] at e2
  cases e1
  cases e2
  exact ⟨same_new nT, T, rfl, upd_same⟩
theorem wk_zipL {H1 : Hp} {a b : Addr} {r r2 : List Nat} (ha : SqL K H1 a (r.map hv)) (hb : SqL K H1 b (r2.map hv)) (hl : r.length = r2.length) : Wk (ItZ (SqL K) a b) H1 (r.zip r2) IsPr := by
  refine ⟨fun i u H hu s => ?_, fun H s => ⟨_, _, s.seq ha, s.seq hb, .inl (by rw [List.length_map, List.length_zip]; omega)⟩⟩
  rw [List.getElem?_zip_eq_some] at hu
  have h1 : (r.map hv)[i]? = some (hv u.1) := by rw [List.getElem?_map, hu.1]; rfl
  have h2 : (r2.map hv)[i]? = some (hv u.2) := by rw [List.getElem?_map, hu.2]; rfl
  refine ⟨⟨_, _, _, _, s.seq ha, s.seq hb, h1, h2⟩, ?_⟩
  rintro y H' ⟨T, x, z, rfl, nT, rfl, k1, k2⟩
  have e1 := k1 _ (s.seq ha)
  have e2 := k2 _ (s.seq hb)
  rw [h1] at e1
  rw [h2] at e2
  cases e1
  cases e2
  exact ⟨same_new nT, T, rfl, upd_same⟩
theorem zip_rot_mem {r : List Nat} {hs : List Nat} (h : ∀ x ∈ r, x ∈ hs) {p : Nat × Nat} (hp : p ∈ r.zip (r.drop 1 ++ r.take 1)) : p.1 ∈ hs ∧ p.2 ∈ hs := by
  have := List.of_mem_zip hp
  refine ⟨h _ this.1, ?_⟩
  rcases List.mem_append.mp this.2 with z | z
  · exact h _ (List.mem_of_mem_drop z)
  · exact h _ (List.mem_of_mem_take z)
def spRS : Sp := fun vs H Q _ => ∃ (b F : Addr) (r hs : List Nat) (f : Dm), vs = [.ref b, .ref F] ∧ LoT H b (r.map hv) ∧ 2 ≤ r.length ∧ r.length ≤ 6 ∧ (∀ h ∈ r, h ∈ hs) ∧ GetAt hs H F f ∧ ∀ H', Same H H' → Q (optI (rsum f r)) H'
theorem ok_rs (T : Txt K mg) : CallOk P w K mg base CX0 1 "ring_sum" ["ring", "shifts"] [] spRS := by
  refine def_ok (st := s_ring_sum) T 20 18 rfl rfl sc_ring_sum (fun _ _ _ _ _ _ us hl => match us, hl with | [_, _], _ => rfl) (fun vs H Q E h => ?_) (fun cdv f A outer s H vs Q E hr h => ?_)
  · obtain ⟨b, F, r, hs, f, rfl, _⟩ := h
    rfl
  · obtain ⟨b, F, r, hs, f, rfl, hb, h2, h6, hin, hg, q⟩ := h
    refine ⟨_, PSs.nox (pss_cons (ps_setLc (i := 2) (own := [("pair", 3)]) (by rfl) sc_ring_sum.nd rfl rfl (sw_true rfl rfl rfl (by decide +kernel)) (pi_zip1 (by rfl) T.f_zip (pa_cons (pv 0) (pa_cons (pe_op (OpR.or op_cat (op_catK (K := K) rfl)) (pe_slice (SlR.or (sl_listK (K := K) rfl) (sl_tupK (K := K) rfl)) (pv 0) (po_some (pe_int)) po_none) (pe_slice (SlR.or (sl_listK (K := K) rfl) (sl_tupK (K := K) rfl)) (pv 0) po_none (po_some (pe_int)))) pa_nil))) (blkOk_by (own := [("pair", 3)]) (N := ["ring", "shifts", "steps", "pair"]) (sc := defScope (topS 32)) (by decide +kernel)) (fun _ _ _ _ _ => (pg_name (i := 3) sc_ring_sum.nd rfl (.inl rfl))) (fun _ _ _ _ _ => pts_nil) (fun _ _ _ _ _ => (pe_dget1 (hu_of hr) (pv 1) (pv 3) ⟨rfl, rfl, rfl, rfl⟩)))
      (pss_one (ps_ret (pe_ifExp (pt_cmpR (op_inK (K := K) rfl) (pe_non) (pv 2) (by rfl)) (pe_non) (pe_callB (id := "sum") (cr_sumK (K := K) rfl rfl) (by rfl) T.f_sum (by decide +kernel) (pa_cons (pv 2) pa_nil)))))), ?_⟩
    have lm : (r.map hv).length = r.length := List.length_map ..
    rcases hb with hb | hb
    · -- a list
      refine ⟨_, rfl, _, rfl, 1, rfl, .inl ⟨b, r.map hv, rfl, .of hb, fun p1 n1 => ?_⟩⟩
      rw [cut_drop1 _ (by omega)]
      have s1 := same_new (o := .lst ((r.map hv).drop 1)) n1
      refine ⟨_, rfl, 1, rfl, .inl ⟨b, r.map hv, rfl, .of (s1 _ _ hb), fun p2 n2 => ?_⟩⟩
      rw [show cutV (r.map hv) none (some 1) = (r.map hv).take 1 from cut_take _ 1 (by omega)]
      have s2 := same_new (o := .lst ((r.map hv).take 1)) n2
      refine .inl ⟨p1, p2, (r.map hv).drop 1, (r.map hv).take 1, rfl, rfl, s2 _ _ upd_same, upd_same, ?_, fun p3 n3 => ?_⟩
      · rw [List.length_drop, List.length_take]
        exact Nat.le_trans (by omega : _ ≤ 12) (by decide)
      have s3 := same_new (o := .lst ((r.map hv).drop 1 ++ (r.map hv).take 1)) n3
      have e3 : (r.map hv).drop 1 ++ (r.map hv).take 1 = (r.drop 1 ++ r.take 1).map hv := by rw [List.map_append, List.map_drop, List.map_take]
      have sH := (s1.trans s2).trans s3
      have hp3 : (upd (upd (upd H p1 (.lst ((r.map hv).drop 1))) p2 (.lst ((r.map hv).take 1))) p3 (.lst ((r.map hv).drop 1 ++ (r.map hv).take 1))) p3 = some (.lst ((r.drop 1 ++ r.take 1).map hv)) := by rw [← e3]; exact upd_same
      refine ⟨b, p3, r.map hv, (r.drop 1 ++ r.take 1).map hv, rfl, .inl ⟨.of (sH _ _ hb), .of hp3, ?_⟩⟩
      have wk := wk_zipL (K := K) (.of (sH _ _ hb)) (.of hp3) (by rw [List.length_append, List.length_drop, List.length_take]; omega)
      clear hp3 s1 s2 s3
      show (fun J H1 => _) (ItZ (SqL K) b p3) (upd (upd (upd H p1 (.lst ((r.map hv).drop 1))) p2 (.lst ((r.map hv).take 1))) p3 (.lst ((r.map hv).drop 1 ++ (r.map hv).take 1)))
      generalize upd (upd (upd H p1 (.lst ((r.map hv).drop 1))) p2 (.lst ((r.map hv).take 1))) p3 (.lst ((r.map hv).drop 1 ++ (r.map hv).take 1)) = H1 at sH wk ⊢
      intro D nD
      refine lcw (us := r.zip (r.drop 1 ++ r.take 1)) IsPr (fun _ v u => v = optI u) (fun _ => true) (fun p => f p.1 p.2) wk (fun _ _ _ _ _ h => h) ?_ ?_ nD ?_
      · rw [List.length_zip]
        exact Nat.le_trans (Nat.min_le_left _ _) (Nat.le_trans h6 (by decide))
      · rintro i _ u H2 QF QT hu ⟨q1, rfl, hq⟩ s4 _ qt
        obtain ⟨i1, i2⟩ := zip_rot_mem hin (mem_of i hu)
        obtain ⟨id, o, go, eo⟩ := (hg.same (sH.trans s4)).get i1 i2 hq
        refine ⟨rfl, _, rfl, F, rfl, id, _, rfl, o, go, ?_⟩
        rw [eo]
        exact qt rfl _ _ (.refl _) rfl
      · intro ys H2 s4 hD hP
        rw [filter_all] at hP
        have ey : ys = (rsteps f r).map optI := pr_eq optI hP
        subst ey
        refine ⟨_, rfl, D, _, rfl, .inl (.of hD), rfl, flat_opt _, _, rfl, ?_⟩
        have e0 : (if false = true then !inV .non ((rsteps f r).map optI) else inV .non ((rsteps f r).map optI)) = decide (none ∈ rsteps f r) := by
          rw [if_neg (by decide), inV_none]
        rw [e0]
        have fin' := q H2 (sH.trans s4)
        unfold rsum at fin'
        by_cases c : none ∈ rsteps f r
        · rw [decide_eq_true c]
          rw [if_pos c] at fin'
          exact fin'
        · rw [decide_eq_false c]
          rw [if_neg c] at fin'
          rw [opt_ints c] at hD
          exact ⟨_, rfl, D, _, rfl, .of hD, fin'⟩
    · -- a tuple
      refine ⟨_, rfl, _, rfl, 1, rfl, .inr ⟨b, r.map hv, rfl, .of hb, fun z => ?_, fun _ p1 n1 => ?_⟩⟩
      · have := z.1
        rw [show HT.sIx (r.map hv).length 0 (some 1) = min 1 (r.map hv).length from HT.sIx_nat _ _ 1] at this
        omega
      rw [cut_drop1 _ (by omega)]
      have s1 := same_new (o := .tup ((r.map hv).drop 1)) n1
      refine ⟨_, rfl, 1, rfl, .inr ⟨b, r.map hv, rfl, .of (s1 _ _ hb), fun z => ?_, fun _ p2 n2 => ?_⟩⟩
      · have := z.2
        rw [show HT.sIx (r.map hv).length (r.map hv).length (some 1) = min 1 (r.map hv).length from HT.sIx_nat _ _ 1] at this
        omega
      rw [show cutV (r.map hv) none (some 1) = (r.map hv).take 1 from cut_take _ 1 (by omega)]
      have s2 := same_new (o := .tup ((r.map hv).take 1)) n2
      refine .inr ⟨p1, p2, (r.map hv).drop 1, (r.map hv).take 1, rfl, rfl, .of (s2 _ _ upd_same), .of upd_same, ?_, fun z => ?_, fun _ z => ?_, fun _ _ p3 n3 => ?_⟩
      · rw [List.length_drop, List.length_take]
        exact Nat.le_trans (by omega : _ ≤ 12) (by decide)
      · have := congrArg List.length z
        rw [List.length_drop, lm] at this
        have h0 : ([] : List V).length = 0 := rfl
        omega
      · have := congrArg List.length z
        rw [List.length_take, lm] at this
        have h0 : ([] : List V).length = 0 := rfl
        omega
      have s3 := same_new (o := .tup ((r.map hv).drop 1 ++ (r.map hv).take 1)) n3
      have e3 : (r.map hv).drop 1 ++ (r.map hv).take 1 = (r.drop 1 ++ r.take 1).map hv := by rw [List.map_append, List.map_drop, List.map_take]
      have sH := (s1.trans s2).trans s3
      have hp3 : (upd (upd (upd H p1 (.tup ((r.map hv).drop 1))) p2 (.tup ((r.map hv).take 1))) p3 (.tup ((r.map hv).drop 1 ++ (r.map hv).take 1))) p3 = some (.tup ((r.drop 1 ++ r.take 1).map hv)) := by rw [← e3]; exact upd_same
      refine ⟨b, p3, r.map hv, (r.drop 1 ++ r.take 1).map hv, rfl, .inr ⟨.of (sH _ _ hb), .of hp3, ?_⟩⟩
      have wk := wk_zipT (K := K) (.of (sH _ _ hb)) (.of hp3) (by rw [List.length_append, List.length_drop, List.length_take]; omega)
      clear hp3 s1 s2 s3
      show (fun J H1 => _) (ItZ (SqT K) b p3) (upd (upd (upd H p1 (.tup ((r.map hv).drop 1))) p2 (.tup ((r.map hv).take 1))) p3 (.tup ((r.map hv).drop 1 ++ (r.map hv).take 1)))
      generalize upd (upd (upd H p1 (.tup ((r.map hv).drop 1))) p2 (.tup ((r.map hv).take 1))) p3 (.tup ((r.map hv).drop 1 ++ (r.map hv).take 1)) = H1 at sH wk ⊢
      intro D nD
      refine lcw (us := r.zip (r.drop 1 ++ r.take 1)) IsPr (fun _ v u => v = optI u) (fun _ => true) (fun p => f p.1 p.2) wk (fun _ _ _ _ _ h => h) ?_ ?_ nD ?_
      · rw [List.length_zip]
        exact Nat.le_trans (Nat.min_le_left _ _) (Nat.le_trans h6 (by decide))
      · rintro i _ u H2 QF QT hu ⟨q1, rfl, hq⟩ s4 _ qt
        obtain ⟨i1, i2⟩ := zip_rot_mem hin (mem_of i hu)
        obtain ⟨id, o, go, eo⟩ := (hg.same (sH.trans s4)).get i1 i2 hq
        refine ⟨rfl, _, rfl, F, rfl, id, _, rfl, o, go, ?_⟩
        rw [eo]
        exact qt rfl _ _ (.refl _) rfl
      · intro ys H2 s4 hD hP
        rw [filter_all] at hP
        have ey : ys = (rsteps f r).map optI := pr_eq optI hP
        subst ey
        refine ⟨_, rfl, D, _, rfl, .inl (.of hD), rfl, flat_opt _, _, rfl, ?_⟩
        have e0 : (if false = true then !inV .non ((rsteps f r).map optI) else inV .non ((rsteps f r).map optI)) = decide (none ∈ rsteps f r) := by
          rw [if_neg (by decide), inV_none]
        rw [e0]
        have fin' := q H2 (sH.trans s4)
        unfold rsum at fin'
        by_cases c : none ∈ rsteps f r
        · rw [decide_eq_true c]
          rw [if_pos c] at fin'
          exact fin'
        · rw [decide_eq_false c]
          rw [if_neg c] at fin'
          rw [opt_ints c] at hD
          exact ⟨_, rfl, D, _, rfl, .of hD, fin'⟩
end
end K80

set_option maxHeartbeats 4000000
/-! the class Log -/
namespace K80
open PySem PySem.Spec L2
open PyProof.Rows hiding St

abbrev s_Log_hands : Stmt := (inClass (topS 33) 1)
theorem sc_Log_hands : FnScope ["self"] ["self"] (defScope s_Log_hands) := ⟨rfl, rfl, rfl, by decide +kernel, rfl, by decide +kernel, by decide +kernel⟩
abbrev s_Log_roads : Stmt := (inClass (topS 33) 2)
theorem sc_Log_roads : FnScope ["self", "road"] ["self"] (defScope s_Log_roads) := ⟨rfl, rfl, rfl, by decide +kernel, rfl, by decide +kernel, by decide +kernel⟩
abbrev s_Log_letters : Stmt := (inClass (topS 33) 3)
theorem sc_Log_letters : FnScope ["self"] ["self"] (defScope s_Log_letters) := ⟨rfl, rfl, rfl, by decide +kernel, rfl, by decide +kernel, by decide +kernel⟩
section
variable {P : Program} {w : World} {K : PySem.W.Frag} {mg : Str → Option Value} {base : Heap}
/-- a method's promise, by its body -/
theorem fn_okM {CX : CXT} {N ps : List Str} {k : Nat} {sp : Sp} {c m nm q : Str} {st : Stmt} (T : Txt K mg) (i : Nat) (hi : fn[i]? = some ⟨(c, some m), nm, q, defArgs st, defBody st, defScope st, [], []⟩) (S : FnScope N ps (defScope st))
    (hbind : ∀ (kV doc pm : Value) (an : Option Addr) (cdv ct : Value) (us : List Value), us.length = ps.length → bindArgs (PySem.W.fnOf nm q (defArgs st) (defBody st) (defScope st) .none kV doc pm an cdv ct) ⟨us, []⟩ = pure (ps.zip us))
    (len : ∀ vs H Q E, sp vs H Q E → vs.length = ps.length)
    (hbody : ∀ (cdv : Value) (A : Around) (outer : List Env) (s : Shared) (H : Hp) (vs : List V) (Q : VK) (E : XK), Room k (A.deeper (envOfC q (defScope st) s.heap.objs.size (He.ma K (He.ga K c) m) cdv)) → sp vs H Q E →
      ∃ t, PSs (cxOf CX P w K mg base N q (defScope st) (He.ma K (He.ga K c) m) cdv A outer s H E) (defBody st) t ∧ t { nx := fun _ H' => Q .non H', rt := Q } (start N vs) H) :
    ∃ fd, FnOk P w K mg base CX (k + 1) (He.ma K (He.ga K c) m) fd ps sp ∧ Binds K fd ps [] := by
  obtain ⟨fd, F⟩ := T.says.def_ i hi
  exact ⟨fd, F.ok S len hbody, F.bindsN hbind⟩
structure MethOk (P : Program) (w : World) (K : PySem.W.Frag) (mg : Str → Option Value) (base : Heap) (CX : CXT) (k : Nat) (C : Addr) (m : Str) (ps : List Str) (sp : Sp) : Prop where
  ex : ∃ (f : Addr) (fd : FuncData), FnOk P w K mg base CX k f fd ps sp ∧ Meth K C m f ∧ Binds K fd ps []
theorem pe_meth0T {X : Cx} {CX : CXT} {k : Nat} {C : Addr} {m : Str} {ps : List Str} {sp : Sp} {E : XK} {o : Expr} {apos pos : Pos} {ta : TE} {pl : Sem Bool} (M : MethOk X.prog X.w X.K X.mg X.base CX k C m ps sp) (c : Cls X.K C) (hr : Room k X.A) (hx : Passes CX X E) (he : PE X o ta)
    (ht : eval (.Call (.Attribute o m apos) [] [] pos) X.env = (do
      let ov ← eval o X.env
      standAt apos.atName
      let (f, first) ← holding [ov] (getMethod ov m pl)
      callWith pos f first (backTo pos (starEach [] X.env)) (backToKw pos (keywordEach [] X.env))) := by rfl) :
    PE X (.Call (.Attribute o m apos) [] [] pos) (tMeth C m sp [] E ta tNil) := by
  obtain ⟨f, fd, F, hm, hb⟩ := M.ex
  exact pe_meth0 (pl := pl) he c hm F hr hb .nil hx ht
abbrev aLog (K : PySem.W.Frag) : Addr := He.ga K "Log"
theorem logCls (T : Txt K mg) : Cls K (aLog K) := He.cls_ok (T.says.fact 87 rfl)
theorem logMk (T : Txt K mg) : Mk K (aLog K) (He.ma K (aLog K) "__init__") := He.mkr_ok (T.says.fact 88 rfl)
theorem logG (T : Txt K mg) : mg "Log" = some (.ref (aLog K)) := T.glo "Log" (mem_of 61 rfl)
theorem no_own_hands (T : Txt K mg) : NoAttr K (aLog K) "own_hands" := He.noat_ok (T.says.fact 92 rfl)
theorem no_own_roads (T : Txt K mg) : NoAttr K (aLog K) "own_roads" := He.noat_ok (T.says.fact 93 rfl)
theorem no_own_letters (T : Txt K mg) : NoAttr K (aLog K) "own_letters" := He.noat_ok (T.says.fact 94 rfl)
theorem no_direct (T : Txt K mg) : NoAttr K (aLog K) "direct" := He.noat_ok (T.says.fact 95 rfl)
theorem no_far (T : Txt K mg) : NoAttr K (aLog K) "far" := He.noat_ok (T.says.fact 96 rfl)
/-- a world: hands, roads, letters -/
structure Wd where
  hs : List Nat
  ks : List (Nat × Nat)
  rd : Nat × Nat → Int × Option Int
  ls : List Lt
abbrev Wd.dir (W : Wd) : Dm := direct W.rd W.ls
abbrev Wd.far (W : Wd) : Dm := least W.hs W.dir
structure Wd.Ok (W : Wd) : Prop where
  nd : W.hs.Nodup
  h6 : ∀ h ∈ W.hs, h < 6
  h2 : 2 ≤ W.hs.length
  h5 : W.hs.length ≤ 5
  prs : PrsOk W.hs W.ks
  bd : ∀ k ∈ W.ks, BdOk (W.rd k)
  lt : ∀ l ∈ W.ls, l.k ∈ W.ks
  lz : W.ls.length ≤ 1000
/-- the log's instance stands at x -/
def LogAt (K : PySem.W.Frag) (H : Hp) (x : Addr) (W : Wd) : Prop := ∃ dx fs a1 a2 a3 a4 a5, H x = some (.ins (aLog K) dx fs) ∧ (fs.lookup ("own_hands" : Str) = some (V.ref a1) ∧ fs.lookup ("own_roads" : Str) = some (V.ref a2) ∧ fs.lookup ("own_letters" : Str) = some (V.ref a3) ∧ fs.lookup ("direct" : Str) = some (V.ref a4) ∧ fs.lookup ("far" : Str) = some (V.ref a5)) ∧
  (fs.lookup ("hands" : Str) = none ∧ fs.lookup ("roads" : Str) = none ∧ fs.lookup ("letters" : Str) = none) ∧
  H a1 = some (.lst (W.hs.map hv)) ∧ RdKept H a2 W.ks W.rd ∧ LtKept H a3 W.ls ∧ TbAt W.hs H a4 W.dir ∧ FarAt W.hs H a5 W.far
/-- the same; told too of its lists of hands and of letters that they are N -/
def LogAtN (K : PySem.W.Frag) (H : Hp) (x : Addr) (W : Wd) (N : Addr → Prop) : Prop := ∃ dx fs a1 a2 a3 a4 a5, (N a1 ∧ N a3) ∧ H x = some (.ins (aLog K) dx fs) ∧ (fs.lookup ("own_hands" : Str) = some (V.ref a1) ∧ fs.lookup ("own_roads" : Str) = some (V.ref a2) ∧ fs.lookup ("own_letters" : Str) = some (V.ref a3) ∧ fs.lookup ("direct" : Str) = some (V.ref a4) ∧ fs.lookup ("far" : Str) = some (V.ref a5)) ∧
  (fs.lookup ("hands" : Str) = none ∧ fs.lookup ("roads" : Str) = none ∧ fs.lookup ("letters" : Str) = none) ∧
  H a1 = some (.lst (W.hs.map hv)) ∧ RdKept H a2 W.ks W.rd ∧ LtKept H a3 W.ls ∧ TbAt W.hs H a4 W.dir ∧ FarAt W.hs H a5 W.far
theorem LogAtN.log {H : Hp} {x : Addr} {W : Wd} {N : Addr → Prop} (h : LogAtN K H x W N) : LogAt K H x W := let ⟨dx, fs, a1, a2, a3, a4, a5, _, r⟩ := h; ⟨dx, fs, a1, a2, a3, a4, a5, r⟩
theorem LogAtN.imp {H : Hp} {x : Addr} {W : Wd} {N M : Addr → Prop} (h : LogAtN K H x W N) (k : ∀ b, N b → M b) : LogAtN K H x W M := let ⟨dx, fs, a1, a2, a3, a4, a5, ⟨n1, n3⟩, r⟩ := h; ⟨dx, fs, a1, a2, a3, a4, a5, ⟨k _ n1, k _ n3⟩, r⟩
theorem LogAt.same {H H' : Hp} {x : Addr} {W : Wd} (s : Same H H') (h : LogAt K H x W) : LogAt K H' x W := by
  obtain ⟨dx, fs, a1, a2, a3, a4, a5, h0, h1, h2, h3, h4, h5, ⟨k6, h6, h6'⟩, k7, h7, h7'⟩ := h
  exact ⟨dx, fs, a1, a2, a3, a4, a5, s _ _ h0, h1, h2, s _ _ h3, h4.same s, h5.same s, ⟨k6, s _ _ h6, h6'⟩, k7, s _ _ h7, h7'⟩
theorem LogAtN.same {H H' : Hp} {x : Addr} {W : Wd} {N : Addr → Prop} (s : Same H H') (h : LogAtN K H x W N) : LogAtN K H' x W N := by
  obtain ⟨dx, fs, a1, a2, a3, a4, a5, n, e, l1, l2, h1, h2, h3, ⟨k4, e4, t4⟩, ⟨k5, e5, t5⟩⟩ := h
  exact ⟨dx, fs, a1, a2, a3, a4, a5, n, s _ _ e, l1, l2, s _ _ h1, h2.same s, h3.same s, ⟨k4, s _ _ e4, t4⟩, ⟨k5, s _ _ e5, t5⟩⟩
def spHands (K : PySem.W.Frag) : Sp := fun vs H Q _ => ∃ (x : Addr) (W : Wd), vs = [.ref x] ∧ LogAt K H x W ∧ ∀ p H', Same H H' → H p = none → H' p = some (.lst (W.hs.map hv)) → Q (.ref p) H'
theorem m_hands (T : Txt K mg) : MethOk P w K mg base CX0 1 (aLog K) "hands" ["self"] (spHands K) := by
  have h : ∃ fd, FnOk P w K mg base CX0 (0 + 1) (He.ma K (aLog K) "hands") fd ["self"] (spHands K) ∧ Binds K fd ["self"] [] := by
    refine fn_okM (st := s_Log_hands) T 22 rfl sc_Log_hands (fun _ _ _ _ _ _ us hl => match us, hl with | [_], _ => rfl) (fun vs H Q E h => ?_) (fun cdv A outer s H vs Q E hr h => ?_)
    · obtain ⟨x, W, rfl, _⟩ := h
      rfl
    · obtain ⟨x, W, rfl, ⟨dx, fs, a1, a2, a3, a4, a5, h0, h1, h2, h3, h4, h5, h6, h7⟩, q⟩ := h
      refine ⟨_, PSs.nox (pss_one (ps_ret (pe_callTy (T := "list") (call_lstK (K := K) rfl) (by rfl) T.f_list (by decide +kernel) (pa_cons (pe_fldK (K := K) rfl (pv 0) rfl) pa_nil)))), ?_⟩
      refine ⟨_, rfl, x, _, dx, fs, _, rfl, h0, logCls T, no_own_hands T, h1.1, a1, _, rfl, .inl (.of h3), fun p np => q p _ (same_new np) np upd_same⟩
  obtain ⟨fd, F, hb⟩ := h
  exact ⟨_, fd, F, He.meth_ok (T.says.fact 89 rfl), hb⟩
def spLetters (K : PySem.W.Frag) : Sp := fun vs H Q _ => ∃ (x : Addr) (W : Wd), vs = [.ref x] ∧ LogAt K H x W ∧ ∀ p H', Same H H' → H p = none → LtKept H' p W.ls → Q (.ref p) H'
theorem m_letters (T : Txt K mg) : MethOk P w K mg base CX0 1 (aLog K) "letters" ["self"] (spLetters K) := by
  have h : ∃ fd, FnOk P w K mg base CX0 (0 + 1) (He.ma K (aLog K) "letters") fd ["self"] (spLetters K) ∧ Binds K fd ["self"] [] := by
    refine fn_okM (st := s_Log_letters) T 24 rfl sc_Log_letters (fun _ _ _ _ _ _ us hl => match us, hl with | [_], _ => rfl) (fun vs H Q E h => ?_) (fun cdv A outer s H vs Q E hr h => ?_)
    · obtain ⟨x, W, rfl, _⟩ := h
      rfl
    · obtain ⟨x, W, rfl, ⟨dx, fs, a1, a2, a3, a4, a5, h0, h1, h2, h3, h4, ⟨xs, h5, hP⟩, h6, h7⟩, q⟩ := h
      refine ⟨_, PSs.nox (pss_one (ps_ret (pe_callTy (T := "list") (call_lstK (K := K) rfl) (by rfl) T.f_list (by decide +kernel) (pa_cons (pe_fldK (K := K) rfl (pv 0) rfl) pa_nil)))), ?_⟩
      refine ⟨_, rfl, x, _, dx, fs, _, rfl, h0, logCls T, no_own_letters T, h1.2.2.1, a3, _, rfl, .inl (.of h5), fun p np => q p _ (same_new np) np ⟨xs, upd_same, ?_⟩⟩
      exact pr_mono hP fun v l ⟨b, e1, e2⟩ => ⟨b, e1, same_new np _ _ e2⟩
  obtain ⟨fd, F, hb⟩ := h
  exact ⟨_, fd, F, He.meth_ok (T.says.fact 91 rfl), hb⟩
def spRoads (K : PySem.W.Frag) : Sp := fun vs H Q _ => ∃ (x : Addr) (W : Wd), vs = [.ref x] ∧ LogAt K H x W ∧ W.ks.Nodup ∧ W.ks.length ≤ 1000 ∧ ∀ p H', Same H H' → H p = none → RdKept H' p W.ks W.rd → Q (.ref p) H'
theorem m_roads (T : Txt K mg) : MethOk P w K mg base CX0 1 (aLog K) "roads" ["self"] (spRoads K) := by
  have h : ∃ fd, FnOk P w K mg base CX0 (0 + 1) (He.ma K (aLog K) "roads") fd ["self"] (spRoads K) ∧ Binds K fd ["self"] [] := by
    refine fn_okM (st := s_Log_roads) T 23 rfl sc_Log_roads (fun _ _ _ _ _ _ us hl => match us, hl with | [_], _ => rfl) (fun vs H Q E h => ?_) (fun cdv A outer s H vs Q E hr h => ?_)
    · obtain ⟨x, W, rfl, _⟩ := h
      rfl
    · obtain ⟨x, W, rfl, ⟨dx, fs, a1, a2, a3, a4, a5, h0, h1, h2, h3, ⟨v, h4, hv4⟩, h5, h6, h7⟩, nd, kz, q⟩ := h
      refine ⟨_, PSs.nox (pss_one (ps_ret (pe_lock (pe_dcA (.dT []) (.inr rfl) (hu_of hr) (own := [("road", 1)]) (by rfl) sc_Log_roads.nd (pi_keys (pe_fldK (K := K) rfl (pv 0) rfl)) (blkOk_by (own := [("road", 1)]) (N := ["self", "road"]) (sc := defScope (inClass (topS 33) 2)) (by decide +kernel)) (fun _ _ _ _ _ => (pg_name (i := 1) sc_Log_roads.nd rfl (.inl rfl))) (fun _ _ _ _ _ => pts_nil) (fun _ _ _ _ _ => (pv 1)) (fun _ _ _ _ _ => (pe_dget (hu_of hr) (pe_fldK (K := K) rfl (pv 0) rfl) (pv 1) (fun _ _ => rfl))))))), ?_⟩
      have lk : ∀ od b o, H b = some o → o ≠ .dT (dt W.ks v) → (upd H a2 (.frz od (.dT (dt W.ks v)))) b = some o := fun od b o h n => locked h4 h n
      refine ⟨a2, _, h4, trivial, fun od => ⟨_, rfl, x, _, dx, fs, _, rfl, lk od _ _ h0 (fun z => by cases z), logCls T, no_own_roads T, h1.2.1, a2, od, rfl, .inr ⟨_, upd_same, fun D nD => ?_⟩⟩⟩
      refine dcwT (ks := W.ks) (fun H v k => ∃ b, v = .ref b ∧ H b = some (.tup [.int (W.rd k).1, optI (W.rd k).2])) (wk_keysP upd_same) nd kz (fun _ _ _ _ k ⟨b, e, h⟩ => ⟨b, e, k _ _ h⟩) ?_ nD ?_
      · intro k hk t H4 Nx s4 ht go
        obtain ⟨b, e1, e2⟩ := hv4 k hk
        refine ⟨rfl, _, rfl, _, rfl, x, _, dx, fs, _, rfl, s4 _ _ (lk od _ _ h0 fun z => by cases z), logCls T, no_own_roads T, h1.2.1, _, rfl, a2, v k, rfl, ?_, ?_⟩
        · have := get_dt (v := v) (.inr ⟨od, s4 _ _ upd_same⟩) ht
          rw [if_pos hk] at this
          exact this
        · exact go _ _ (.refl _) ⟨b, e1, s4 _ _ (lk od _ _ e2 fun z => by cases z)⟩
      · intro u H4 s4 hD hu
        refine ⟨s4 _ _ upd_same, ?_⟩
        have sH := unlock s4 h4
        have nDH : H D = none := by
          have : D ≠ a2 := (ne_of_none upd_same nD).symm
          rw [upd_ne this] at nD
          exact nD
        have Da : D ≠ a2 := (ne_of_none h4 nDH).symm
        refine q D _ sH nDH ⟨u, by rw [upd_ne Da]; exact hD, fun k hk => ?_⟩
        obtain ⟨b, e1, e2⟩ := hu k hk
        refine ⟨b, e1, ?_⟩
        have : b ≠ a2 := ne_of e2 (s4 _ _ upd_same) fun z => by cases z
        rw [upd_ne this]
        exact e2
  obtain ⟨fd, F, hb⟩ := h
  exact ⟨_, fd, F, He.meth_ok (T.says.fact 90 rfl), hb⟩
end
end K80

set_option maxHeartbeats 4000000
/-! Log(..) is made -/
namespace K80
open PySem PySem.Spec L2
open PyProof.Rows hiding St
abbrev s_Log_init : Stmt := (inClass (topS 33) 0)
theorem sc_Log_init : FnScope ["self", "hands", "roads", "letters", "ring", "many", "hand"] ["self", "hands", "roads", "letters"] (defScope s_Log_init) := ⟨rfl, rfl, rfl, by decide +kernel, rfl, by decide +kernel, by decide +kernel⟩
section
variable {P : Program} {w : World} {K : PySem.W.Frag} {mg : Str → Option Value} {base : Heap}
theorem lk_ne {f g : Str} {v : V} {fs : List (Str × V)} (h : decide (g = f) = false) : (putF f v fs).lookup g = fs.lookup g := by
  rw [lookup_putF, if_neg (of_decide_eq_false h)]
theorem lk_eq {f : Str} {v : V} {fs : List (Str × V)} : (putF f v fs).lookup f = some v := by
  rw [lookup_putF, if_pos rfl]
theorem pairwise_lt_uniq {l m : List Nat} (p : l.Perm m) (hl : l.Pairwise (· < ·)) (hm : m.Pairwise (· < ·)) : l = m :=
  List.Perm.eq_of_pairwise (le := (· < ·)) (fun a b _ _ h1 h2 => by omega) hl hm p
theorem pLe_uniq {l m : List (Nat × Nat)} (p : l.Perm m) (hl : l.Pairwise pLe) (hm : m.Pairwise pLe) : l = m :=
  List.Perm.eq_of_pairwise (fun a b _ _ h1 h2 => by
    unfold pLe at h1 h2
    exact Prod.ext (by omega) (by omega)) hl hm p
/-- sorted; no sum round from a hand back to itself below nought -/
structure Wd.Lg (W : Wd) : Prop extends W.Ok where
  srt : W.hs.Pairwise (· < ·)
  ksrt : W.ks.Pairwise pLe
  diag : ∀ h ∈ W.hs, ∀ v, W.far h h = some v → 0 ≤ v
def spLogI (K : PySem.W.Frag) : Sp := fun vs H Q _ => ∃ (x dx a r l : Addr) (W : Wd) (hs0 : List Nat) (ks0 : List (Nat × Nat)), vs = [.ref x, .ref a, .ref r, .ref l] ∧ H x = some (.ins (aLog K) dx []) ∧ W.Lg ∧ hs0.Perm W.hs ∧ ks0.Perm W.ks ∧
  H a = some (.lst (hs0.map hv)) ∧ RdTold H r ks0 W.rd ∧ LtTold H l W.ls ∧ ∀ H', SameB x H H' → LogAtN K H' x W (fun b => H b = none) → Q .non H'
/-- an instance stands at x -/
def NX (H : Hp) (x : Addr) : Prop := ∃ C dx fs, H x = some (.ins C dx fs)
def NoIns : HO → Bool
  | .ins _ _ _ => false
  | _ => true
theorem nx_ne {H : Hp} {x b : Addr} {o : HO} (n : NX H x) (h : H b = some o) (k : NoIns o = true) : b ≠ x := by
  obtain ⟨C, dx, fs, e⟩ := n
  refine ne_of h e fun z => ?_
  subst z
  cases k
theorem sbk {H H' : Hp} {x b : Addr} {o : HO} (s : SameB x H H') (n : NX H x) (h : H b = some o) (k : NoIns o = true := by rfl) : H' b = some o := s _ _ (nx_ne n h k) h
theorem RdTold.sb {H H' : Hp} {x r : Addr} {ks : List (Nat × Nat)} {rd : Nat × Nat → Int × Option Int} (s : SameB x H H') (n : NX H x) (h : RdTold H r ks rd) : RdTold H' r ks rd :=
  let ⟨v, e, k⟩ := h; ⟨v, sbk s n e, fun z hz => let ⟨b, e1, e2⟩ := k z hz; ⟨b, e1, e2.imp (fun h => sbk s n h) fun h => sbk s n h⟩⟩
theorem RdKept.sb {H H' : Hp} {x r : Addr} {ks : List (Nat × Nat)} {rd : Nat × Nat → Int × Option Int} (s : SameB x H H') (n : NX H x) (h : RdKept H r ks rd) : RdKept H' r ks rd :=
  let ⟨v, e, k⟩ := h; ⟨v, sbk s n e, fun z hz => let ⟨b, e1, e2⟩ := k z hz; ⟨b, e1, sbk s n e2⟩⟩
theorem LtTold.sb {H H' : Hp} {x r : Addr} {ls : List Lt} (s : SameB x H H') (n : NX H x) (h : LtTold H r ls) : LtTold H' r ls :=
  let ⟨xs, e, p⟩ := h; ⟨xs, sbk s n e, pr_mono p fun v l ⟨b, e1, e2⟩ => ⟨b, e1, e2.imp (fun h => sbk s n h) fun h => sbk s n h⟩⟩
theorem LtKept.sb {H H' : Hp} {x r : Addr} {ls : List Lt} (s : SameB x H H') (n : NX H x) (h : LtKept H r ls) : LtKept H' r ls :=
  let ⟨xs, e, p⟩ := h; ⟨xs, sbk s n e, pr_mono p fun v l ⟨b, e1, e2⟩ => ⟨b, e1, sbk s n e2⟩⟩
theorem TbAt.sb {hs : List Nat} {H H' : Hp} {x r : Addr} {d : Dm} (s : SameB x H H') (n : NX H x) (h : TbAt hs H r d) : TbAt hs H' r d := let ⟨k, e, t⟩ := h; ⟨k, sbk s n e, t⟩
theorem FarAt.sb {hs : List Nat} {H H' : Hp} {x r : Addr} {d : Dm} (s : SameB x H H') (n : NX H x) (h : FarAt hs H r d) : FarAt hs H' r d := let ⟨k, e, t⟩ := h; ⟨k, sbk s n e, t⟩
theorem TbAt.same {hs : List Nat} {H H' : Hp} {r : Addr} {d : Dm} (s : Same H H') (h : TbAt hs H r d) : TbAt hs H' r d := let ⟨k, e, t⟩ := h; ⟨k, s _ _ e, t⟩
theorem FarAt.same {hs : List Nat} {H H' : Hp} {r : Addr} {d : Dm} (s : Same H H') (h : FarAt hs H r d) : FarAt hs H' r d := let ⟨k, e, t⟩ := h; ⟨k, s _ _ e, t⟩
theorem ne_ins {H : Hp} {x b C dx : Addr} {fs : List (Str × V)} {o : HO} (hx : H x = some (.ins C dx fs)) (hb : H b = some o) (n : ∀ fs, o ≠ .ins C dx fs) : b ≠ x := ne_of hb hx (n fs)
theorem log_init (T : Txt K mg) : ∃ fd, FnOk P w K mg base CX0 (5 + 1) (He.ma K (aLog K) "__init__") fd ["self", "hands", "roads", "letters"] (spLogI K) ∧ Binds K fd ["self", "hands", "roads", "letters"] [] := by
  have C_checked_hands : CallOk P w K mg base CX0 2 "checked_hands" ["hands"] [] spCheckedHands := ok_checked_hands T
  have C_checked_log_roads : CallOk P w K mg base CX0 4 "checked_log_roads" ["roads", "hands"] [] spCLR := ok_clr T
  have C_checked_log_letters : CallOk P w K mg base CX0 2 "checked_log_letters" ["letters", "roads"] [] spCLL := ok_cll T
  have C_direct_shifts : CallOk P w K mg base CX0 1 "direct_shifts" ["roads", "letters"] [] spDS := ok_ds T
  have C_least_sums : CallOk P w K mg base CX0 1 "least_sums" ["hands", "direct"] [] spLS := ok_ls T
  refine fn_okM (st := s_Log_init) T 21 rfl sc_Log_init (fun _ _ _ _ _ _ us hl => match us, hl with | [_, _, _, _], _ => rfl) (fun vs H Q E h => ?_) (fun cdv A outer s H vs Q E hr h => ?_)
  · obtain ⟨x, dx, a, r, l, W, hs0, ks0, rfl, _⟩ := h
    rfl
  · obtain ⟨x, dx, a, r, l, W, hs0, ks0, rfl, hx, ok, ph, pk', ha, hr1, ⟨xl, hl, hlP⟩, q⟩ := h
    refine ⟨_, PSs.nox (pss_cons (ps_fld (pv 0) (pe_callT C_checked_hands (hr.mono (by decide)) (by rfl) pass0 (pa_cons (pv 1) pa_nil)) rfl)
      (pss_cons (ps_fld (pv 0) (pe_callT C_checked_log_roads (hr.mono (by decide)) (by rfl) pass0 (pa_cons (pv 2) (pa_cons (pe_fldK (K := K) rfl (pv 0) rfl) pa_nil))) rfl)
      (pss_cons (ps_fld (pv 0) (pe_callT C_checked_log_letters (hr.mono (by decide)) (by rfl) pass0 (pa_cons (pv 3) (pa_cons (pe_fldK (K := K) rfl (pv 0) rfl) pa_nil))) rfl)
      (pss_cons (ps_fld (pv 0) (pe_callT C_direct_shifts (hr.mono (by decide)) (by rfl) pass0 (pa_cons (pe_fldK (K := K) rfl (pv 0) rfl) (pa_cons (pe_fldK (K := K) rfl (pv 0) rfl) pa_nil))) rfl)
      (pss_cons (ps_fld (pv 0) (pe_callT C_least_sums (hr.mono (by decide)) (by rfl) pass0 (pa_cons (pe_fldK (K := K) rfl (pv 0) rfl) (pa_cons (pe_fldK (K := K) rfl (pv 0) rfl) pa_nil))) rfl)
      (pss_one (ps_if (pt_val (pe_callB (id := "any") (cr_anyK (K := K) rfl rfl) (by rfl) T.f_any (by decide +kernel) (pa_cons (pe_lc (own := [("hand", 6)]) (by rfl) sc_Log_init.nd (pi_listK (K := K) rfl (pe_fldK (K := K) rfl (pv 0) rfl)) (blkOk_by (own := [("hand", 6)]) (N := ["self", "hands", "roads", "letters", "ring", "many", "hand"]) (sc := defScope (inClass (topS 33) 0)) (by decide +kernel)) (fun _ _ _ _ _ => (pg_name (i := 6) sc_Log_init.nd rfl (.inl rfl))) (fun _ _ _ _ _ => pts_nil) (fun _ _ _ _ _ => (pe_and (pe_cmpR op_notN (pe_dget (hu_of hr) (pe_fldK (K := K) rfl (pv 0) rfl) (pe_tup (pa_cons (pv 6) (pa_cons (pv 6) pa_nil))) (fun _ _ => rfl)) (pe_non) (nomark _)) (pe_one (pe_cmpR op_lt (pe_dget (hu_of hr) (pe_fldK (K := K) rfl (pv 0) rfl) (pe_tup (pa_cons (pv 6) (pa_cons (pv 6) pa_nil))) (fun _ _ => rfl)) (pe_int) (nomark _)))))) pa_nil))) (pss_one ps_never) pss_nil))))))), ?_⟩
    have mem0 : ∀ h, h ∈ hs0 ↔ h ∈ W.hs := fun h => ph.mem_iff
    refine ⟨_, rfl, a, hs0, rfl, ha, ph.nodup_iff.mpr ok.nd, fun h hh => ok.h6 h ((mem0 h).mp hh), by rw [ph.length_eq]; exact ok.h2, fun p1 H1 ys s1 n1 hp1 pm so => ?_⟩
    have ey : ys = W.hs := pairwise_lt_uniq (pm.trans ph) so ok.srt
    subst ey
    refine ⟨_, rfl, x, _, dx, [], rfl, s1 _ _ hx, logCls T, no_own_hands T, by decide, ?_⟩
    have nx : NX H x := ⟨_, _, _, hx⟩
    have fld : ∀ {H1 : Hp} {f : Str} {v : V} {fs : List (Str × V)}, SameB x H H1 → H1 x = some (.ins (aLog K) dx fs) → ∃ G, G = upd H1 x (.ins (aLog K) dx (putF f v fs)) ∧ SameB x H G ∧ SameB x H1 G ∧ G x = some (.ins (aLog K) dx (putF f v fs)) := fun s _ => ⟨_, rfl, s.trans sameB_upd, sameB_upd, upd_same⟩
    obtain ⟨G1, eG1, b1, c1, x1⟩ := fld (f := "own_hands") (v := .ref p1) (sameB_of s1) (s1 _ _ hx)
    rw [← eG1]
    clear eG1
    have nx1 : NX H1 x := ⟨_, _, _, s1 _ _ hx⟩
    have g1 : G1 p1 = some (.lst (W.hs.map hv)) := sbk c1 nx1 hp1
    generalize e1 : putF "own_hands" (.ref p1) [] = fs1 at x1 ⊢
    have k11 : fs1.lookup ("own_hands" : Str) = some (V.ref p1) := by rw [← e1]; exact lk_eq
    have z1 : fs1.length ≤ 1 := by rw [← e1]; exact length_putF _ _ _
    have m1 : ∀ g : Str, decide (g = ("own_hands" : Str)) = false → fs1.lookup g = none := fun g h => by rw [← e1, lk_ne h]; rfl
    clear e1
    -- the roads
    refine ⟨_, rfl, _, rfl, x, _, dx, fs1, _, rfl, x1, logCls T, no_own_hands T, k11, r, p1, ks0, W.rd, W.hs, rfl, hr1.sb b1 nx, ⟨pk'.nodup_iff.mpr ok.prs.1, by rw [pk'.length_eq]; exact ok.prs.2.1, fun k hk => ok.prs.2.2 k (pk'.mem_iff.mp hk)⟩, fun k hk => ok.bd k (pk'.mem_iff.mp hk), g1, ok.h6, fun p2 H2 ks' s2 n2 hr2 pm2 so2 => ?_⟩
    have ek : ks' = W.ks := pLe_uniq (pm2.trans pk') so2 ok.ksrt
    subst ek
    refine ⟨_, rfl, x, _, dx, fs1, rfl, s2 _ _ x1, logCls T, no_own_roads T, by omega, ?_⟩
    obtain ⟨G2, eG2, b2, c2, x2⟩ := fld (f := "own_roads") (v := .ref p2) (b1.trans (sameB_of s2)) (s2 _ _ x1)
    rw [← eG2]
    clear eG2
    have nx2 : NX H2 x := ⟨_, _, _, s2 _ _ x1⟩
    have g2 := sbk c2 nx2 (s2 _ _ g1)
    have r2 := hr2.sb c2 nx2
    generalize e2 : putF "own_roads" (.ref p2) fs1 = fs2 at x2 ⊢
    have k22 : fs2.lookup ("own_roads" : Str) = some (V.ref p2) := by rw [← e2]; exact lk_eq
    have k21 : fs2.lookup ("own_hands" : Str) = some (V.ref p1) := by rw [← e2, lk_ne (by decide +kernel)]; exact k11
    have z2 : fs2.length ≤ 2 := by rw [← e2]; exact Nat.le_trans (length_putF _ _ _) (by omega)
    have m2 : ∀ g : Str, decide (g = ("own_hands" : Str)) = false → decide (g = ("own_roads" : Str)) = false → fs2.lookup g = none := fun g h h' => by rw [← e2, lk_ne h']; exact m1 g h
    clear e2
    -- the letters
    refine ⟨_, rfl, _, rfl, x, _, dx, fs2, _, rfl, x2, logCls T, no_own_roads T, k22, l, p2, W.ks, W.rd, W.ls, rfl, LtTold.sb b2 nx ⟨xl, hl, hlP⟩, r2, ok.lt, ok.lz, fun p3 H3 s3 n3 hl3 => ?_⟩
    refine ⟨_, rfl, x, _, dx, fs2, rfl, s3 _ _ x2, logCls T, no_own_letters T, by omega, ?_⟩
    obtain ⟨G3, eG3, b3, c3, x3⟩ := fld (f := "own_letters") (v := .ref p3) (b2.trans (sameB_of s3)) (s3 _ _ x2)
    rw [← eG3]
    clear eG3
    have nx3 : NX H3 x := ⟨_, _, _, s3 _ _ x2⟩
    have g3 := sbk c3 nx3 (s3 _ _ g2)
    have r3 := (r2.same s3).sb c3 nx3
    have l3 := hl3.sb c3 nx3
    generalize e3 : putF "own_letters" (.ref p3) fs2 = fs3 at x3 ⊢
    have k33 : fs3.lookup ("own_letters" : Str) = some (V.ref p3) := by rw [← e3]; exact lk_eq
    have k32 : fs3.lookup ("own_roads" : Str) = some (V.ref p2) := by rw [← e3, lk_ne (by decide +kernel)]; exact k22
    have k31 : fs3.lookup ("own_hands" : Str) = some (V.ref p1) := by rw [← e3, lk_ne (by decide +kernel)]; exact k21
    have z3 : fs3.length ≤ 3 := by rw [← e3]; exact Nat.le_trans (length_putF _ _ _) (by omega)
    have m3 : ∀ g : Str, decide (g = ("own_hands" : Str)) = false → decide (g = ("own_roads" : Str)) = false → decide (g = ("own_letters" : Str)) = false → fs3.lookup g = none := fun g h h' h2 => by rw [← e3, lk_ne h2]; exact m2 g h h'
    clear e3
    -- the direct shifts
    refine ⟨_, rfl, x, _, dx, fs3, _, rfl, x3, logCls T, no_own_roads T, k32, _, rfl, x, _, dx, fs3, _, rfl, x3, logCls T, no_own_letters T, k33, p2, p3, W.ks, W.rd, W.ls, W.hs, rfl, r3, l3, ok.lt, fun k hk => ⟨(ok.prs.2.2 k hk).1, (ok.prs.2.2 k hk).2.1⟩, by have := ok.h5; omega, fun p4 H4 s4 n4 hd4 => ?_⟩
    refine ⟨_, rfl, x, _, dx, fs3, rfl, s4 _ _ x3, logCls T, no_direct T, by omega, ?_⟩
    obtain ⟨G4, eG4, b4, c4, x4⟩ := fld (f := "direct") (v := .ref p4) (b3.trans (sameB_of s4)) (s4 _ _ x3)
    rw [← eG4]
    clear eG4
    have nx4 : NX H4 x := ⟨_, _, _, s4 _ _ x3⟩
    have g4 := sbk c4 nx4 (s4 _ _ g3)
    have r4 := (r3.same s4).sb c4 nx4
    have l4 := (l3.same s4).sb c4 nx4
    have d4 := hd4.sb c4 nx4
    generalize e4 : putF "direct" (.ref p4) fs3 = fs4 at x4 ⊢
    have k44 : fs4.lookup ("direct" : Str) = some (V.ref p4) := by rw [← e4]; exact lk_eq
    have k43 : fs4.lookup ("own_letters" : Str) = some (V.ref p3) := by rw [← e4, lk_ne (by decide +kernel)]; exact k33
    have k42 : fs4.lookup ("own_roads" : Str) = some (V.ref p2) := by rw [← e4, lk_ne (by decide +kernel)]; exact k32
    have k41 : fs4.lookup ("own_hands" : Str) = some (V.ref p1) := by rw [← e4, lk_ne (by decide +kernel)]; exact k31
    have z4 : fs4.length ≤ 4 := by rw [← e4]; exact Nat.le_trans (length_putF _ _ _) (by omega)
    have m4 : ∀ g : Str, decide (g = ("own_hands" : Str)) = false → decide (g = ("own_roads" : Str)) = false → decide (g = ("own_letters" : Str)) = false → decide (g = ("direct" : Str)) = false → fs4.lookup g = none := fun g h h' h2 h3 => by rw [← e4, lk_ne h3]; exact m3 g h h' h2
    clear e4
    -- the least sums
    refine ⟨_, rfl, x, _, dx, fs4, _, rfl, x4, logCls T, no_own_hands T, k41, _, rfl, x, _, dx, fs4, _, rfl, x4, logCls T, no_direct T, k44, p1, p4, W.hs, W.dir, rfl, g4, d4, by have := ok.h5; omega, fun p5 H5 s5 n5 hf5 => ?_⟩
    refine ⟨_, rfl, x, _, dx, fs4, rfl, s5 _ _ x4, logCls T, no_far T, by omega, ?_⟩
    obtain ⟨G5, eG5, b5, c5, x5⟩ := fld (f := "far") (v := .ref p5) (b4.trans (sameB_of s5)) (s5 _ _ x4)
    rw [← eG5]
    clear eG5
    have nx5 : NX H5 x := ⟨_, _, _, s5 _ _ x4⟩
    have g5 := sbk c5 nx5 (s5 _ _ g4)
    have r5 := (r4.same s5).sb c5 nx5
    have l5 := (l4.same s5).sb c5 nx5
    have d5 := (d4.same s5).sb c5 nx5
    have f5 := hf5.sb c5 nx5
    generalize e5 : putF "far" (.ref p5) fs4 = fs5 at x5 ⊢
    have k55 : fs5.lookup ("far" : Str) = some (V.ref p5) := by rw [← e5]; exact lk_eq
    have k54 : fs5.lookup ("direct" : Str) = some (V.ref p4) := by rw [← e5, lk_ne (by decide +kernel)]; exact k44
    have k53 : fs5.lookup ("own_letters" : Str) = some (V.ref p3) := by rw [← e5, lk_ne (by decide +kernel)]; exact k43
    have k52 : fs5.lookup ("own_roads" : Str) = some (V.ref p2) := by rw [← e5, lk_ne (by decide +kernel)]; exact k42
    have k51 : fs5.lookup ("own_hands" : Str) = some (V.ref p1) := by rw [← e5, lk_ne (by decide +kernel)]; exact k41
    have m5 : ∀ g : Str, decide (g = ("own_hands" : Str)) = false → decide (g = ("own_roads" : Str)) = false → decide (g = ("own_letters" : Str)) = false → decide (g = ("direct" : Str)) = false → decide (g = ("far" : Str)) = false → fs5.lookup g = none := fun g h h' h2 h3 h4 => by rw [← e5, lk_ne h4]; exact m4 g h h' h2 h3
    clear e5
    have f3 : H p3 = none := b2.free n3 fun z => by rw [z, x2] at n3; cases n3
    have log : LogAtN K G5 x W (fun b => H b = none) := ⟨dx, fs5, p1, p2, p3, p4, p5, ⟨n1, f3⟩, x5, ⟨k51, k52, k53, k54, k55⟩, ⟨m5 _ (by decide +kernel) (by decide +kernel) (by decide +kernel) (by decide +kernel) (by decide +kernel), m5 _ (by decide +kernel) (by decide +kernel) (by decide +kernel) (by decide +kernel) (by decide +kernel), m5 _ (by decide +kernel) (by decide +kernel) (by decide +kernel) (by decide +kernel) (by decide +kernel)⟩, g5, r5, l5, d5, f5⟩
    -- no sum round a hand below nought
    refine ⟨_, rfl, x, _, dx, fs5, _, rfl, x5, logCls T, no_own_hands T, k51, p1, rfl, ⟨_, .of g5⟩, fun D nD => ?_⟩
    obtain ⟨kv, f5', tb⟩ := f5
    refine lcw (us := W.hs) (fun _ v u => v = hv u) (fun _ v u => v = .bl u) (fun _ => true) (fun _ => false) (wk_hands (.of g5)) (fun _ _ _ _ _ h => h) (Nat.le_trans ok.h5 (by decide)) ?_ nD ?_
    · rintro i _ u H6 QF QT hu rfl s6 _ qt
      have hm := mem_of i hu
      have eo : oT W.hs W.far u u = some (optI (W.far u u)) := if_pos ⟨hm, hm⟩
      refine ⟨rfl, _, rfl, x, _, dx, fs5, _, rfl, s6 _ _ x5, logCls T, no_far T, k55, _, rfl, _, rfl, by show 2 ≤ sizeLine; decide, fun q1 nq => ?_⟩
      have sq := same_new (o := .tup [hv u, hv u]) nq
      refine ⟨p5, _, rfl, eo ▸ tb_get tb (sq _ _ (s6 _ _ f5')) upd_same, rfl, ?_⟩
      cases hf : W.far u u with
      | none => exact ⟨_, rfl, qt rfl _ _ sq rfl⟩
      | some v =>
        refine ⟨_, rfl, _, rfl, x, _, dx, fs5, _, rfl, sq _ _ (s6 _ _ x5), logCls T, no_far T, k55, _, rfl, _, rfl, by show 2 ≤ sizeLine; decide, fun q2 nq2 => ?_⟩
        have sq2 := same_new (o := .tup [hv u, hv u]) nq2
        refine ⟨p5, _, rfl, eo ▸ tb_get tb (sq2 _ _ (sq _ _ (s6 _ _ f5'))) upd_same, v, 0, by rw [hf]; rfl, rfl, ?_⟩
        have : decide (v < 0) = false := decide_eq_false (by have := ok.diag u hm v hf; omega)
        show QT (.bl (decide (v < 0))) _
        rw [this]
        exact qt rfl _ _ (sq.trans sq2) rfl
    · intro ys H6 s6 hD hP
      rw [filter_all] at hP
      have e := pr_eq V.bl hP
      rw [e] at hD
      refine ⟨D, _, rfl, .of hD, _, rfl, ?_⟩
      have : (W.hs.map fun _ => false).any id = false := by simp
      rw [this]
      exact q H6 (b5.trans (sameB_of s6)) (log.same s6)
end
end K80

set_option maxHeartbeats 4000000
/-! fractions in lowest terms -/
namespace K80
theorem gpos {a b : Int} (h : 0 < b) : 0 < ((Nat.gcd a.natAbs b.natAbs : Nat) : Int) := by
  have : 0 < Nat.gcd a.natAbs b.natAbs := Nat.gcd_pos_of_pos_right _ (by omega)
  exact_mod_cast this
theorem gdl (a b : Int) : ((Nat.gcd a.natAbs b.natAbs : Nat) : Int) ∣ a := Int.ofNat_dvd_left.mpr (Nat.gcd_dvd_left _ _)
theorem gdr (a b : Int) : ((Nat.gcd a.natAbs b.natAbs : Nat) : Int) ∣ b := Int.ofNat_dvd_left.mpr (Nat.gcd_dvd_right _ _)
theorem low_parts {a b : Int} (h : 0 < b) : ∃ g : Int, 0 < g ∧ a = g * (lowF a b).1 ∧ b = g * (lowF a b).2 ∧ Nat.gcd (lowF a b).1.natAbs (lowF a b).2.natAbs = 1 := by
  have hg := gpos (a := a) h
  refine ⟨_, hg, (Int.mul_ediv_cancel' (gdl a b)).symm, (Int.mul_ediv_cancel' (gdr a b)).symm, ?_⟩
  show Nat.gcd (a / ((Nat.gcd a.natAbs b.natAbs : Nat) : Int)).natAbs (b / ((Nat.gcd a.natAbs b.natAbs : Nat) : Int)).natAbs = 1
  have hn : 0 < Nat.gcd a.natAbs b.natAbs := by exact_mod_cast hg
  have e1 : (a / ((Nat.gcd a.natAbs b.natAbs : Nat) : Int)).natAbs = a.natAbs / Nat.gcd a.natAbs b.natAbs := by
    rw [Int.natAbs_ediv_of_dvd (gdl a b)]
    rfl
  have e2 : (b / ((Nat.gcd a.natAbs b.natAbs : Nat) : Int)).natAbs = b.natAbs / Nat.gcd a.natAbs b.natAbs := by
    rw [Int.natAbs_ediv_of_dvd (gdr a b)]
    rfl
  rw [e1, e2]
  exact Nat.coprime_div_gcd_div_gcd hn
theorem low_pos {a b : Int} (h : 0 < b) : 0 < (lowF a b).2 := by
  obtain ⟨g, hg, _, e, _⟩ := low_parts (a := a) h
  rcases Int.lt_or_le 0 (lowF a b).2 with c | c
  · exact c
  · have : g * (lowF a b).2 ≤ 0 := Int.mul_nonpos_of_nonneg_of_nonpos (by omega) c
    omega
theorem low_rep {a b : Int} (h : 0 < b) : (lowF a b).1 * b = a * (lowF a b).2 := by
  obtain ⟨g, hg, e1, e2, _⟩ := low_parts (a := a) h
  generalize (lowF a b).1 = x at *
  generalize (lowF a b).2 = y at *
  rw [e1, e2]
  rw [← Int.mul_assoc, Int.mul_comm x g]
theorem copr_eq {x y u v : Int} (hy : 0 < y) (hv : 0 < v) (c1 : Nat.gcd x.natAbs y.natAbs = 1) (c2 : Nat.gcd u.natAbs v.natAbs = 1) (e : x * v = u * y) : x = u ∧ y = v := by
  have en : x.natAbs * v.natAbs = u.natAbs * y.natAbs := by rw [← Int.natAbs_mul, ← Int.natAbs_mul, e]
  have d1 : y.natAbs ∣ v.natAbs := by
    have : y.natAbs ∣ x.natAbs * v.natAbs := ⟨u.natAbs, by rw [en, Nat.mul_comm]⟩
    exact Nat.Coprime.dvd_of_dvd_mul_left (Nat.Coprime.symm c1) this
  have d2 : v.natAbs ∣ y.natAbs := by
    have : v.natAbs ∣ u.natAbs * y.natAbs := ⟨x.natAbs, by rw [← en, Nat.mul_comm]⟩
    exact Nat.Coprime.dvd_of_dvd_mul_left (Nat.Coprime.symm c2) this
  have ey : y = v := by
    have := Nat.dvd_antisymm d1 d2
    omega
  subst ey
  exact ⟨Int.eq_of_mul_eq_mul_right (by omega) e, rfl⟩
/-- equal fractions have equal lowest terms -/
theorem low_eq {a b c d : Int} (hb : 0 < b) (hd : 0 < d) (e : a * d = c * b) : lowF a b = lowF c d := by
  obtain ⟨g, hg, e1, e2, c1⟩ := low_parts (a := a) hb
  obtain ⟨h, hh, e3, e4, c2⟩ := low_parts (a := c) hd
  have p1 := low_pos (a := a) hb
  have p2 := low_pos (a := c) hd
  have key : (lowF a b).1 * (lowF c d).2 = (lowF c d).1 * (lowF a b).2 := by
    generalize (lowF a b).1 = x at *
    generalize (lowF a b).2 = y at *
    generalize (lowF c d).1 = u at *
    generalize (lowF c d).2 = v at *
    subst e1 e2 e3 e4
    have e' : (g * h) * (x * v) = (g * h) * (u * y) := by
      calc (g * h) * (x * v) = g * x * (h * v) := by ac_rfl
        _ = h * u * (g * y) := e
        _ = (g * h) * (u * y) := by ac_rfl
    exact Int.eq_of_mul_eq_mul_left (by have := Int.mul_pos hg hh; omega) e'
  obtain ⟨q1, q2⟩ := copr_eq p1 p2 c1 c2 key
  exact Prod.ext q1 q2
theorem low_of {x y : Int} (hy : 0 < y) (c : Nat.gcd x.natAbs y.natAbs = 1) : lowF x y = (x, y) := by
  unfold lowF
  rw [c]
  simp
theorem low_one (x : Int) : lowF x 1 = (x, 1) := low_of (by decide) (by simp)
theorem low_low {a b : Int} (hb : 0 < b) : lowF (lowF a b).1 (lowF a b).2 = lowF a b := low_eq (low_pos hb) hb (low_rep hb)
theorem less_low {a b q : Int} (h : 0 < q) : lessF (lowF a q) (lowF b q) = lowF (a - b) q := by
  have p1 := low_pos (a := a) h
  have p2 := low_pos (a := b) h
  have r1 := low_rep (a := a) h
  have r2 := low_rep (a := b) h
  unfold lessF
  refine low_eq (Int.mul_pos p1 p2) h ?_
  generalize (lowF a q).1 = x at *
  generalize (lowF a q).2 = y at *
  generalize (lowF b q).1 = u at *
  generalize (lowF b q).2 = v at *
  rw [Int.sub_mul, Int.sub_mul]
  have e1 : x * v * q = a * (y * v) := by
    calc x * v * q = x * q * v := by ac_rfl
      _ = a * y * v := by rw [r1]
      _ = a * (y * v) := by ac_rfl
  have e2 : u * y * q = b * (y * v) := by
    calc u * y * q = u * q * y := by ac_rfl
      _ = b * v * y := by rw [r2]
      _ = b * (y * v) := by ac_rfl
  rw [e1, e2]
theorem below_low {a b q : Int} (h : 0 < q) : belowF (lowF a q) (lowF b q) = decide (a < b) := by
  have p1 := low_pos (a := a) h
  have p2 := low_pos (a := b) h
  have r1 := low_rep (a := a) h
  have r2 := low_rep (a := b) h
  unfold belowF
  generalize (lowF a q).1 = x at *
  generalize (lowF a q).2 = y at *
  generalize (lowF b q).1 = u at *
  generalize (lowF b q).2 = v at *
  have py : 0 < y * v := Int.mul_pos p1 p2
  have e1 : x * v * q = a * (y * v) := by
    calc x * v * q = x * q * v := by ac_rfl
      _ = a * y * v := by rw [r1]
      _ = a * (y * v) := by ac_rfl
  have e2 : u * y * q = b * (y * v) := by
    calc u * y * q = u * q * y := by ac_rfl
      _ = b * v * y := by rw [r2]
      _ = b * (y * v) := by ac_rfl
  have : (x * v < u * y) ↔ a < b := by
    constructor
    · intro c
      have : x * v * q < u * y * q := Int.mul_lt_mul_of_pos_right c h
      rw [e1, e2] at this
      exact Int.lt_of_mul_lt_mul_right this (by omega)
    · intro c
      have : a * (y * v) < b * (y * v) := Int.mul_lt_mul_of_pos_right c py
      rw [← e1, ← e2] at this
      exact Int.lt_of_mul_lt_mul_right this (by omega)
  simp only [this]
theorem low_sz {n : Nat} {a b : Int} (hb : 0 < b) (h1 : a.natAbs < 2 ^ n) (h2 : b.natAbs < 2 ^ n) : Sz n (lowF a b) := by
  obtain ⟨g, hg, e1, e2, _⟩ := low_parts (a := a) hb
  have le : ∀ x y : Int, x = g * y → y.natAbs ≤ x.natAbs := fun x y e => by
    rw [e, Int.natAbs_mul]
    exact Nat.le_mul_of_pos_left _ (by omega)
  exact ⟨Nat.lt_of_le_of_lt (le _ _ e1) h1, Nat.lt_of_le_of_lt (le _ _ e2) h2, low_pos hb⟩
theorem low_mul {a b k : Int} (hb : 0 < b) (hk : 0 < k) : lowF (a * k) (b * k) = lowF a b := low_eq (Int.mul_pos hb hk) hb (by ac_rfl)
end K80

set_option maxHeartbeats 4000000
/-! pairs, slacks, the farthest pair -/
namespace K80
open PySem PySem.Spec L2
open PyProof.Rows hiding St
abbrev s_all_pairs : Stmt := (topS 39)
theorem sc_all_pairs : FnScope ["hands", "one", "other"] ["hands"] (defScope s_all_pairs) := ⟨rfl, rfl, rfl, by decide +kernel, rfl, by decide +kernel, by decide +kernel⟩
abbrev s_slack : Stmt := (topS 40)
theorem sc_slack : FnScope ["log", "taken", "pair"] ["log", "taken", "pair"] (defScope s_slack) := ⟨rfl, rfl, rfl, by decide +kernel, rfl, by decide +kernel, by decide +kernel⟩
abbrev s_farthest : Stmt := (topS 41)
theorem sc_farthest : FnScope ["log", "taken", "best", "pair"] ["log", "taken"] (defScope s_farthest) := ⟨rfl, rfl, rfl, by decide +kernel, rfl, by decide +kernel, by decide +kernel⟩
section
variable {P : Program} {w : World} {K : PySem.W.Frag} {mg : Str → Option Value} {base : Heap}
def pairs (hs : List Nat) : List (Nat × Nat) := hs.flatMap fun u => (hs.filter fun w => !decide (u = w)).map fun w => (u, w)
theorem mem_pairs {hs : List Nat} {i j : Nat} : (i, j) ∈ pairs hs ↔ i ∈ hs ∧ j ∈ hs ∧ i ≠ j := by
  unfold pairs
  simp only [List.mem_flatMap, List.mem_map, List.mem_filter]
  constructor
  · rintro ⟨u, hu, w, ⟨hw, h⟩, e⟩
    cases e
    exact ⟨hu, hw, by simpa using h⟩
  · rintro ⟨h1, h2, h3⟩
    exact ⟨i, h1, j, ⟨h2, by simpa using h3⟩, rfl⟩
def PrsAt (H : Hp) (p : Addr) (ps : List (Nat × Nat)) : Prop := ∃ xs, H p = some (.lst xs) ∧ Paired (IsPr H) xs ps
theorem isPr_keep (H H' : Hp) (v : V) (k : Nat × Nat) (s : KeepT H H') (h : IsPr H v k) : IsPr H' v k := let ⟨q, e, z⟩ := h; ⟨q, e, s q _ z⟩
theorem isPr_same (H H' : Hp) (v : V) (k : Nat × Nat) (s : Same H H') (h : IsPr H v k) : IsPr H' v k := let ⟨q, e, z⟩ := h; ⟨q, e, s q _ z⟩
theorem wk_prs {H : Hp} {p : Addr} {ps : List (Nat × Nat)} (h : PrsAt H p ps) : Wk (Itl K p) H ps IsPr := let ⟨xs, e, k⟩ := h; wk_list (.of e) k isPr_same
def spAP : Sp := fun vs H Q _ => ∃ (l : Addr) (hs : List Nat), vs = [.ref l] ∧ H l = some (.lst (hs.map hv)) ∧ hs.length ≤ 6 ∧ ∀ p H', Same H H' → H p = none → PrsAt H' p (pairs hs) → Q (.ref p) H'
theorem ok_ap (T : Txt K mg) : CallOk P w K mg base CX0 1 "all_pairs" ["hands"] [] spAP := by
  refine def_ok (st := s_all_pairs) T 29 23 rfl rfl sc_all_pairs (fun _ _ _ _ _ _ us hl => match us, hl with | [_], _ => rfl) (fun vs H Q E h => ?_) (fun cdv f A outer s H vs Q E hr h => ?_)
  · obtain ⟨l, hs, rfl, _⟩ := h
    rfl
  · obtain ⟨l, hs, rfl, hl, h6, q⟩ := h
    refine ⟨_, PSs.nox (pss_one (ps_ret (pe_lc2 (own := [("one", 1), ("other", 2)]) (vs1 := [2]) (by rfl) sc_all_pairs.nd (pi_listK (K := K) rfl (pv 0)) (blkOk_by (own := [("one", 1), ("other", 2)]) (N := ["hands", "one", "other"]) (sc := defScope (topS 39)) (by decide +kernel)) (by decide) (fun _ _ _ _ _ => (pg_name (i := 1) sc_all_pairs.nd rfl (.inl rfl))) (fun _ _ _ _ _ => pts_nil) (fun _ _ _ _ _ => (pi_listK (K := K) rfl (pv 0))) (fun _ _ _ _ _ => (pg_name (i := 2) sc_all_pairs.nd rfl (.inl rfl))) (fun _ _ _ _ _ => pts_one (pt_cmpR op_ne (pv 1) (pv 2) (nomark _))) (fun _ _ _ _ _ => (pe_tup (pa_cons (pv 1) (pa_cons (pv 2) pa_nil))))))), ?_⟩
    refine ⟨_, rfl, l, rfl, ⟨_, .of hl⟩, fun D nD => ?_⟩
    refine lcw2 (us := hs) (ws := hs) (fun _ v u => v = hv u) (fun _ v u => v = hv u) IsPr (fun u _ σ2 => σ2 = [some (.ref l), some (hv u), none]) (fun u w => !decide (u = w)) (fun u w => (u, w)) (wk_hands (.of hl)) (fun _ _ _ _ _ h => h) isPr_keep (Nat.le_trans (Nat.mul_le_mul h6 h6) (by decide)) ?_ ?_ nD ?_
    · rintro i x u H2 Qn R hu rfl s2 k
      exact ⟨rfl, _, rfl, l, rfl, ⟨_, .of (s2 _ _ hl)⟩, k _ _ _ (.refl _) rfl (wk_hands (.of hl))⟩
    · rintro i u x σ2 z w H2 QF QT hu rfl hw rfl rfl s2 qf qt
      refine ⟨rfl, _, rfl, _, rfl, rfl, _, rfl, ?_⟩
      have e : (!decide (hv u = hv w)) = !decide (u = w) := by rw [hv_dec]
      rw [e]
      cases c : !decide (u = w) with
      | false => exact qf c _ (.refl _)
      | true => exact ⟨_, rfl, _, rfl, by show 2 ≤ sizeLine; decide, fun p np => qt c _ _ (same_new np) ⟨p, rfl, upd_same⟩⟩
    · intro ys H2 s2 hD hP
      exact q D H2 s2 nD ⟨ys, hD, hP⟩
theorem LogAt.far {H : Hp} {x : Addr} {W : Wd} (h : LogAt K H x W) : ∃ dx fs a5, H x = some (.ins (aLog K) dx fs) ∧ fs.lookup ("far" : Str) = some (V.ref a5) ∧ FarAt W.hs H a5 W.far := by
  obtain ⟨dx, fs, a1, a2, a3, a4, a5, h0, h1, h2, h3, h4, h5, h6, h7⟩ := h
  exact ⟨dx, fs, a5, h0, h1.2.2.2.2, h7⟩
theorem LogAt.m {H : Hp} {x : Addr} {W : Wd} (h : LogAt K H x W) : ∃ dx fs, H x = some (.ins (aLog K) dx fs) ∧ fs.lookup ("hands" : Str) = none ∧ fs.lookup ("roads" : Str) = none ∧ fs.lookup ("letters" : Str) = none := by
  obtain ⟨dx, fs, a1, a2, a3, a4, a5, h0, h1, h2, h3, h4, h5, h6, h7⟩ := h
  exact ⟨dx, fs, h0, h2⟩
theorem FarAt.get {hs : List Nat} {H : Hp} {F q : Addr} {f : Dm} {i j : Nat} (t : FarAt hs H F f) (hi : i ∈ hs) (hj : j ∈ hs) (hq : PrT H q i j) : DGet H F (.ref q) (some (optI (f i j))) := by
  obtain ⟨kv, e, tb⟩ := t
  have : oT hs f i j = some (optI (f i j)) := if_pos ⟨hi, hj⟩
  exact this ▸ tb_get tb e hq
/-- the taken reading: tn h / tq -/
def TkOk (hs : List Nat) (tn : Nat → Int) (tq : Int) : Prop := 0 < tq ∧ tq.natAbs < 2 ^ 400 ∧ ∀ h ∈ hs, (tn h).natAbs < 2 ^ 400
abbrev frT (tn : Nat → Int) (tq : Int) : Nat → Int × Int := fun h => lowF (tn h) tq
/-- no least sum is great -/
def FarSz (W : Wd) : Prop := ∀ i j v, i ∈ W.hs → j ∈ W.hs → W.far i j = some v → v.natAbs < 2 ^ 400
def slk (W : Wd) (tn : Nat → Int) (tq : Int) (i j : Nat) : Int := (W.far i j).getD 0 * tq - (tn j - tn i)
theorem pw {a b : Nat} {x : Nat} (h : x < 2 ^ a) (k : a ≤ b := by decide) : x < 2 ^ b := Nat.lt_of_lt_of_le h (Nat.pow_le_pow_right (by decide) k)
theorem sub_sz {a b : Int} {n : Nat} (h1 : a.natAbs < 2 ^ n) (h2 : b.natAbs < 2 ^ n) : (a - b).natAbs < 2 ^ (n + 1) := by
  have : (a - b).natAbs ≤ a.natAbs + b.natAbs := by omega
  rw [Nat.pow_succ]
  omega
def spSlack (K : PySem.W.Frag) : Sp := fun vs H Q _ => ∃ (x t q : Addr) (W : Wd) (tn : Nat → Int) (tq : Int) (i j : Nat), vs = [.ref x, .ref t, .ref q] ∧ LogAt K H x W ∧ RdK H t W.hs (frT tn tq) ∧ TkOk W.hs tn tq ∧ FarSz W ∧ PrT H q i j ∧ i ∈ W.hs ∧ j ∈ W.hs ∧ (∃ v, W.far i j = some v) ∧
  ∀ p H', Same H H' → H p = none → FrAt H' p (lowF (slk W tn tq i j) tq) → Q (.ref p) H'
theorem ok_slack (T : Txt K mg) : CallOk P w K mg base CX0 3 "slack" ["log", "taken", "pair"] [] (spSlack K) := by
  have C_less : CallOk P w K mg base CX0 2 "less" ["one", "other"] [] spLess := ok_less T
  refine def_ok (st := s_slack) T 30 24 rfl rfl sc_slack (fun _ _ _ _ _ _ us hl => match us, hl with | [_, _, _], _ => rfl) (fun vs H Q E h => ?_) (fun cdv f A outer s H vs Q E hr h => ?_)
  · obtain ⟨x, t, q, W, tn, tq, i, j, rfl, _⟩ := h
    rfl
  · obtain ⟨x, t, r, W, tn, tq, i, j, rfl, hx, ht, ⟨k1, k2, k3⟩, fz, hr1, hi, hj, ⟨v, hv1⟩, q⟩ := h
    refine ⟨_, PSs.nox (pss_one (ps_ret (pe_callT C_less (hr.mono (by decide)) (by rfl) pass0 (pa_cons (pe_tup (pa_cons (pe_dget (hu_of hr) (pe_fldK (K := K) rfl (pv 0) rfl) (pv 2) (fun _ _ => rfl)) (pa_cons (pe_int) pa_nil))) (pa_cons (pe_callT C_less (hr.mono (by decide)) (by rfl) pass0 (pa_cons (pe_dget (hu_of hr) (pv 1) (pe_ix (ix_tupK (K := K) rfl) (pv 2) (pe_int) (fun _ _ => rfl)) (fun _ _ => rfl)) (pa_cons (pe_dget (hu_of hr) (pv 1) (pe_ix (ix_tupK (K := K) rfl) (pv 2) (pe_int) (fun _ _ => rfl)) (fun _ _ => rfl)) pa_nil))) pa_nil))))), ?_⟩
    obtain ⟨dx, fs, a5, h0, h5, hf⟩ := hx.far
    have vz := fz i j v hi hj hv1
    refine ⟨_, rfl, x, _, dx, fs, _, rfl, h0, logCls T, no_far T, h5, _, rfl, a5, _, rfl, hf.get hi hj hr1, ?_⟩
    rw [hv1]
    refine ⟨by show 2 ≤ sizeLine; decide, fun p1 n1 => ?_⟩
    have s1 := same_new (o := .tup [optI (some v), .int 1]) n1
    obtain ⟨bj, gj, fj⟩ := (ht.same s1).get hj
    obtain ⟨bi, gi, fi⟩ := (ht.same s1).get hi
    have tr := s1 _ _ hr1
    refine ⟨_, rfl, _, rfl, r, _, 1, _, rfl, rfl, .of tr, rfl, t, _, rfl, gj, _, rfl, _, rfl, r, _, 0, _, rfl, rfl, .of tr, rfl, t, _, rfl, gi, ?_⟩
    refine ⟨bj, bi, _, _, rfl, fj, fi, low_sz k1 (pw (k3 j hj)) (pw k2), low_sz k1 (pw (k3 i hi)) (pw k2), fun p2 H2 s2 n2 f2 => ?_⟩
    rw [less_low k1] at f2
    refine ⟨p1, p2, (v, 1), _, rfl, s2 _ _ upd_same, f2, ⟨pw vz, by show (1 : Nat) < 2 ^ 2000; exact Nat.one_lt_two_pow (by decide), by show (0 : Int) < 1; decide⟩, low_sz k1 (pw (sub_sz (k3 j hj) (k3 i hi))) (pw k2), fun p3 H3 s3 n3 f3 => ?_⟩
    have e : lessF (v, 1) (lowF (tn j - tn i) tq) = lowF (slk W tn tq i j) tq := by
      have e1 : ((v, 1) : Int × Int) = lowF (v * tq) tq := by
        have := low_mul (a := v) (b := 1) (k := tq) (by decide) k1
        rw [Int.one_mul] at this
        rw [this, low_one]
      rw [e1, less_low k1]
      unfold slk
      rw [hv1]
      rfl
    rw [e] at f3
    exact q p3 H3 ((s1.trans s2).trans s3) (s1.free (s2.free n3)) f3
def spFarthest (K : PySem.W.Frag) : Sp := fun vs H Q _ => ∃ (x t : Addr) (W : Wd) (tn : Nat → Int) (tq : Int), vs = [.ref x, .ref t] ∧ LogAt K H x W ∧ RdK H t W.hs (frT tn tq) ∧ TkOk W.hs tn tq ∧ FarSz W ∧ 2 ≤ W.hs.length ∧ W.hs.length ≤ 6 ∧ W.hs.Nodup ∧
  (∀ H', Same H H' → (∃ k ∈ pairs W.hs, W.far k.1 k.2 = none) → Q .non H') ∧
  ∀ q H' (k : Nat × Nat), Same H H' → PrT H' q k.1 k.2 → k ∈ pairs W.hs → (∀ l ∈ pairs W.hs, ∃ v, W.far l.1 l.2 = some v) → (∀ l ∈ pairs W.hs, slk W tn tq l.1 l.2 ≤ slk W tn tq k.1 k.2) → Q (.ref q) H'
theorem pairs_ne {hs : List Nat} (h2 : 2 ≤ hs.length) (hd : hs.Nodup) : pairs hs ≠ [] := by
  match hs, h2, hd with
  | a :: b :: r, _, hd =>
    intro e
    have : (a, b) ∈ pairs (a :: b :: r) := mem_pairs.mpr ⟨by simp, by simp, fun z => by subst z; simp at hd⟩
    rw [e] at this
    cases this
theorem ok_farthest (T : Txt K mg) : CallOk P w K mg base CX0 4 "farthest" ["log", "taken"] [] (spFarthest K) := by
  have C_all_pairs : CallOk P w K mg base CX0 1 "all_pairs" ["hands"] [] spAP := ok_ap T
  have C_slack : CallOk P w K mg base CX0 3 "slack" ["log", "taken", "pair"] [] (spSlack K) := ok_slack T
  have C_is_below : CallOk P w K mg base CX0 1 "is_below" ["one", "other"] [] spBelow := ok_is_below T
  have M_hands : MethOk P w K mg base CX0 1 (aLog K) "hands" ["self"] (spHands K) := m_hands T
  refine def_ok (st := s_farthest) T 31 25 rfl rfl sc_farthest (fun _ _ _ _ _ _ us hl => match us, hl with | [_, _], _ => rfl) (fun vs H Q E h => ?_) (fun cdv f A outer s H vs Q E hr h => ?_)
  · obtain ⟨x, t, W, tn, tq, rfl, _⟩ := h
    rfl
  · obtain ⟨x, t, W, tn, tq, rfl, hx, ht, hk, fz, h2, h6, hd, q0, q⟩ := h
    refine ⟨_, PSs.nox (pss_cons (ps_set (i := 2) sc_farthest.nd rfl (.inl rfl) (pe_non))
      (pss_cons (ps_for PassesOwn.never rfl (pi_listK (K := K) rfl (pe_callT C_all_pairs (hr.mono (by decide)) (by rfl) pass0 (pa_cons (pe_meth0T M_hands (logCls T) (hr.mono (by decide)) pass0 (pv 0)) pa_nil))) (pg_name (i := 3) sc_farthest.nd rfl (.inl rfl))
      (pss_cons (ps_if (pt_cmpR op_isN (pe_dget (hu_of hr) (pe_fldK (K := K) rfl (pv 0) rfl) (pv 3) (fun _ _ => rfl)) (pe_non) (nomark _)) (pss_one (ps_ret (pe_non))) pss_nil)
      (pss_one (ps_if (PW.pt (pw_or (pt_cmpR op_isN (pv 2) (pe_non) (nomark _)) (pw_or1 (pt_val (pe_callT C_is_below (hr.mono (by decide)) (by rfl) pass0 (pa_cons (pe_callT C_slack (hr.mono (by decide)) (by rfl) pass0 (pa_cons (pv 0) (pa_cons (pv 1) (pa_cons (pv 2) pa_nil)))) (pa_cons (pe_callT C_slack (hr.mono (by decide)) (by rfl) pass0 (pa_cons (pv 0) (pa_cons (pv 1) (pa_cons (pv 3) pa_nil)))) pa_nil))))))) (pss_one (ps_set (i := 2) sc_farthest.nd rfl (.inl rfl) (pv 3))) pss_nil))))
      (pss_one (ps_ret (pv 2))))), ?_⟩
    obtain ⟨dx0, fs0, m0, mh, _, _⟩ := hx.m
    refine ⟨_, rfl, x, dx0, fs0, rfl, m0, mh, x, W, rfl, hx, fun l1 H1 s1 n1 hl1 => ?_⟩
    refine ⟨l1, W.hs, rfl, hl1, h6, fun p1 H2 s2 n2 hp1 => ?_⟩
    have hx2 := (hx.same s1).same s2
    have ht2 := (ht.same s1).same s2
    refine ⟨p1, rfl, (let ⟨xs, e, _⟩ := hp1; ⟨xs, .of e⟩), ?_⟩
    refine for_wk (wk_prs hp1) (fun i σ H' => Same H2 H' ∧ (∀ l ∈ (pairs W.hs).take i, ∃ v, W.far l.1 l.2 = some v) ∧ ∃ b u, σ = [some (.ref x), some (.ref t), some b, u] ∧ ((i = 0 ∧ b = .non) ∨ ∃ r k, b = .ref r ∧ PrT H' r k.1 k.2 ∧ k ∈ (pairs W.hs).take i ∧ ∀ l ∈ (pairs W.hs).take i, slk W tn tq l.1 l.2 ≤ slk W tn tq k.1 k.2))
      ⟨.refl _, fun l h => by simp at h, _, _, rfl, .inl ⟨rfl, rfl⟩⟩ (fun _ _ _ h => h.1) ?_ ?_
    · rintro i k _ σ H0 H3 hu ⟨s0, hall, b, u, rfl, hb⟩ s03 ⟨r, rfl, hr3⟩
      have s3 := s0.trans s03
      have hm := mem_of i hu
      obtain ⟨ki, kj, kn⟩ := mem_pairs.mp hm
      have hx3 := hx2.same s3
      obtain ⟨dx, fs, a5, h0, h5, hf⟩ := hx3.far
      refine ⟨_, rfl, x, _, dx, fs, _, rfl, h0, logCls T, no_far T, h5, _, rfl, a5, _, rfl, hf.get ki kj hr3, rfl, _, rfl, ?_⟩
      cases hv1 : W.far k.1 k.2 with
      | none => exact q0 _ ((s1.trans s2).trans s3) ⟨k, hm, hv1⟩
      | some v =>
        have step : ∀ l ∈ (pairs W.hs).take (i + 1), ∃ v, W.far l.1 l.2 = some v := by
          intro l hl
          rw [take_succ' hu] at hl
          rcases List.mem_append.mp hl with z | z
          · exact hall l z
          · simp at z; subst z; exact ⟨v, hv1⟩
        rcases hb with ⟨i0, rfl⟩ | ⟨r0, k0, rfl, hr0, hk0, hmax⟩
        · refine ⟨_, rfl, rfl, _, rfl, _, rfl, s3, step, _, _, rfl, .inr ⟨r, k, rfl, hr3, ?_, ?_⟩⟩
          · rw [take_succ' hu]; exact List.mem_append_right _ (List.mem_singleton.mpr rfl)
          · intro l hl
            subst i0
            rw [take_succ' hu] at hl
            simp at hl
            subst hl
            exact Int.le_refl _
        · have hk0' : k0 ∈ pairs W.hs := List.mem_of_mem_take hk0
          obtain ⟨k0i, k0j, k0n⟩ := mem_pairs.mp hk0'
          refine ⟨_, rfl, rfl, _, rfl, ?_⟩
          refine ⟨_, rfl, _, rfl, _, rfl, x, t, r0, W, tn, tq, k0.1, k0.2, rfl, hx3, ht2.same s3, hk, fz, s03 _ _ hr0, k0i, k0j, hall k0 hk0, fun p4 H4 s4 n4 f4 => ?_⟩
          refine ⟨_, rfl, _, rfl, _, rfl, x, t, r, W, tn, tq, k.1, k.2, rfl, hx3.same s4, (ht2.same s3).same s4, hk, fz, s4 _ _ hr3, ki, kj, ⟨v, hv1⟩, fun p5 H5 s5 n5 f5 => ?_⟩
          have ssz : ∀ a b, a ∈ W.hs → b ∈ W.hs → (∃ v, W.far a b = some v) → Sz 2000 (lowF (slk W tn tq a b) tq) := by
            intro a b ha hb' ⟨v, hv'⟩
            refine low_sz hk.1 ?_ (pw hk.2.1)
            unfold slk
            rw [hv']
            show (v * tq - (tn b - tn a)).natAbs < 2 ^ 2000
            have h1 := wide_lt (fz a b v ha hb' hv') hk.2.1
            have h2 := sub_sz (hk.2.2 b hb') (hk.2.2 a ha)
            exact pw (sub_sz (n := 800) h1 (pw h2))
          refine ⟨p4, p5, _, _, rfl, s5 _ _ f4, f5, ssz _ _ k0i k0j (hall k0 hk0), ssz _ _ ki kj ⟨v, hv1⟩, _, rfl, ?_⟩
          rw [below_low hk.1]
          have s35 := s4.trans s5
          by_cases c : slk W tn tq k0.1 k0.2 < slk W tn tq k.1 k.2
          · rw [decide_eq_true c]
            refine ⟨_, rfl, s3.trans s35, step, _, _, rfl, .inr ⟨r, k, rfl, s35 _ _ hr3, ?_, ?_⟩⟩
            · rw [take_succ' hu]; exact List.mem_append_right _ (List.mem_singleton.mpr rfl)
            · intro l hl
              rw [take_succ' hu] at hl
              rcases List.mem_append.mp hl with z | z
              · have := hmax l z; omega
              · simp at z; subst z; exact Int.le_refl _
          · rw [decide_eq_false c]
            refine ⟨s3.trans s35, step, _, _, rfl, .inr ⟨r0, k0, rfl, s35 _ _ (s03 _ _ hr0), ?_, ?_⟩⟩
            · rw [take_succ' hu]; exact List.mem_append_left _ hk0
            · intro l hl
              rw [take_succ' hu] at hl
              rcases List.mem_append.mp hl with z | z
              · exact hmax l z
              · simp at z; subst z; omega
    · rintro σ H3 ⟨s3, hall, b, u, rfl, hb⟩
      rw [List.take_length] at hall hb
      rcases hb with ⟨e, _⟩ | ⟨r, k, rfl, hr1, hk1, hmax⟩
      · exact (pairs_ne h2 hd (List.eq_nil_of_length_eq_zero e)).elim
      · exact ⟨_, rfl, q r H3 k ((s1.trans s2).trans s3) hr1 hk1 hall hmax⟩
end
end K80

set_option maxHeartbeats 4000000
/-! offsets from one hand -/
namespace K80
open PySem PySem.Spec L2
open PyProof.Rows hiding St
abbrev s_free_offsets : Stmt := (topS 37)
theorem sc_free_offsets : FnScope ["log", "one", "hands", "hand", "found", "free", "low", "other", "steps", "up", "far"] ["log", "one"] (defScope s_free_offsets) := ⟨rfl, rfl, rfl, by decide +kernel, rfl, by decide +kernel, by decide +kernel⟩
abbrev s_far_offsets : Stmt := (topS 38)
theorem sc_far_offsets : FnScope ["log", "one", "found", "hand"] ["log", "one"] (defScope s_far_offsets) := ⟨rfl, rfl, rfl, by decide +kernel, rfl, by decide +kernel, by decide +kernel⟩
section
variable {P : Program} {w : World} {K : PySem.W.Frag} {mg : Str → Option Value} {base : Heap}
def off0 (W : Wd) (one h : Nat) : Option Int := if h = one then some 0 else W.far one h
def frees (W : Wd) (one : Nat) : List Nat := W.hs.filter fun h => decide (off0 W one h = none)
def lowL (W : Wd) (one h : Nat) : List Int := ((((frees W one).filter fun o => !decide (o = h)).map fun o => W.far o h).filter fun x => x.isSome).map fun x => x.getD 0
def IsLow (W : Wd) (one h : Nat) (m : Int) : Prop := m ∈ 0 :: lowL W one h ∧ ∀ y ∈ 0 :: lowL W one h, m ≤ y
def offF (W : Wd) (one : Nat) (up : Int) (lo : Nat → Int) (h : Nat) : Int := match off0 W one h with
  | some x => x
  | none => up + lo h
/-- where the greatest need comes from -/
def UpW (W : Wd) (one : Nat) (lo : Nat → Int) (u : Int) : Prop := u = 0 ∨ ∃ h ∈ frees W one, ∃ o ∈ W.hs, ∃ v x, off0 W one o = some v ∧ W.far h o = some x ∧ u = v - x - lo h
structure FreeOff (W : Wd) (one : Nat) (up : Int) (lo : Nat → Int) : Prop where
  low : ∀ h ∈ frees W one, IsLow W one h (lo h)
  up0 : 0 ≤ up
  upw : UpW W one lo up
  up : ∀ h ∈ frees W one, ∀ o ∈ W.hs, o ∉ frees W one → ∀ x, W.far h o = some x → (off0 W one o).getD 0 - x - lo h ≤ up
theorem mem_frees {W : Wd} {one h : Nat} : h ∈ frees W one ↔ h ∈ W.hs ∧ off0 W one h = none := by
  unfold frees
  rw [List.mem_filter]
  simp
def spFO (K : PySem.W.Frag) : Sp := fun vs H Q _ => ∃ (x : Addr) (W : Wd) (one : Nat), vs = [.ref x, hv one] ∧ LogAt K H x W ∧ one ∈ W.hs ∧ W.hs.Nodup ∧ W.hs.length ≤ 6 ∧
  ∀ p d fl H' up lo, Same H H' → H p = none → FreeOff W one up lo → H' p = some (.tup [.ref d, .ref fl]) → H' d = some (.dK (dh W.hs fun h => .int (offF W one up lo h))) → H' fl = some (.lst ((frees W one).map hv)) → Q (.ref p) H'
theorem ok_fo (T : Txt K mg) : CallOk P w K mg base CX0 2 "free_offsets" ["log", "one"] [] (spFO K) := by
  have M_hands : MethOk P w K mg base CX0 1 (aLog K) "hands" ["self"] (spHands K) := m_hands T
  refine def_ok (st := s_free_offsets) T 27 21 rfl rfl sc_free_offsets (fun _ _ _ _ _ _ us hl => match us, hl with | [_, _], _ => rfl) (fun vs H Q E h => ?_) (fun cdv f A outer s H vs Q E hr h => ?_)
  · obtain ⟨x, W, one, rfl, _⟩ := h
    rfl
  · obtain ⟨x, W, one, rfl, hx, h1, hd, h6, q⟩ := h
    refine ⟨_, PSs.nox (pss_cons (ps_set (i := 2) sc_free_offsets.nd rfl (.inl rfl) (pe_meth0T M_hands (logCls T) (hr.mono (by decide)) pass0 (pv 0)))
      (pss_cons (ps_set (i := 4) sc_free_offsets.nd rfl (.inr rfl) (pe_dcA (.dK []) (.inl rfl) (hu_of hr) (own := [("hand", 3)]) (by rfl) sc_free_offsets.nd (pi_listK (K := K) rfl (pv 2)) (blkOk_by (own := [("hand", 3)]) (N := ["log", "one", "hands", "hand", "found", "free", "low", "other", "steps", "up", "far"]) (sc := defScope (topS 37)) (by decide +kernel)) (fun _ _ _ _ _ => (pg_name (i := 3) sc_free_offsets.nd rfl (.inl rfl))) (fun _ _ _ _ _ => pts_nil) (fun _ _ _ _ _ => (pv 3)) (fun _ _ _ _ _ => (pe_ifExp (pt_cmpR op_eq (pv 3) (pv 1) (nomark _)) (pe_int) (pe_dget (hu_of hr) (pe_fldK (K := K) rfl (pv 0) rfl) (pe_tup (pa_cons (pv 1) (pa_cons (pv 3) pa_nil))) (fun _ _ => rfl))))))
      (pss_cons (ps_setLc (i := 5) (own := [("hand", 3)]) (by rfl) sc_free_offsets.nd rfl rfl (sw_true rfl rfl rfl (by decide +kernel)) (pi_listK (K := K) rfl (pv 2)) (blkOk_by (own := [("hand", 3)]) (N := ["log", "one", "hands", "hand", "found", "free", "low", "other", "steps", "up", "far"]) (sc := defScope (topS 37)) (by decide +kernel)) (fun _ _ _ _ _ => (pg_name (i := 3) sc_free_offsets.nd rfl (.inl rfl))) (fun _ _ _ _ _ => pts_one (pt_cmpR op_isN (pe_dget (hu_of hr) (pv 4) (pv 3) (fun _ _ => rfl)) (pe_non) (nomark _))) (fun _ _ _ _ _ => (pv 3)))
      (pss_cons (ps_set (i := 6) sc_free_offsets.nd rfl (.inl rfl) (pe_dnewK))
      (pss_cons (ps_for PassesOwn.never rfl (pi_listK (K := K) rfl (pv 5)) (pg_name (i := 3) sc_free_offsets.nd rfl (.inr rfl))
      (pss_cons (ps_setLc (i := 8) (own := [("other", 7)]) (by rfl) sc_free_offsets.nd rfl rfl (sw_true rfl rfl rfl (by decide +kernel)) (pi_listK (K := K) rfl (pv 5)) (blkOk_by (own := [("other", 7)]) (N := ["log", "one", "hands", "hand", "found", "free", "low", "other", "steps", "up", "far"]) (sc := defScope (topS 37)) (by decide +kernel)) (fun _ _ _ _ _ => (pg_name (i := 7) sc_free_offsets.nd rfl (.inl rfl))) (fun _ _ _ _ _ => pts_one (pt_cmpR op_ne (pv 7) (pv 3) (nomark _))) (fun _ _ _ _ _ => (pe_dget (hu_of hr) (pe_fldK (K := K) rfl (pv 0) rfl) (pe_tup (pa_cons (pv 7) (pa_cons (pv 3) pa_nil))) (fun _ _ => rfl))))
      (pss_one (ps_dput (hu_of hr) (pv 6) (pv 3) (pe_callB (id := "min") (cr_minK (K := K) rfl rfl) (by rfl) T.f_min (by decide +kernel) (pa_cons (pe_op op_cat (pe_lst (pa_cons (pe_int) pa_nil)) (pe_lc (own := [("far", 10)]) (by rfl) sc_free_offsets.nd (pi_listK (K := K) rfl (pv 8)) (blkOk_by (own := [("far", 10)]) (N := ["log", "one", "hands", "hand", "found", "free", "low", "other", "steps", "up", "far"]) (sc := defScope (topS 37)) (by decide +kernel)) (fun _ _ _ _ _ => (pg_name (i := 10) sc_free_offsets.nd rfl (.inl rfl))) (fun _ _ _ _ _ => pts_one (pt_cmpR op_notN (pv 10) (pe_non) (nomark _))) (fun _ _ _ _ _ => (pv 10)))) pa_nil)) rfl))))
      (pss_cons (ps_set (i := 9) sc_free_offsets.nd rfl (.inl rfl) (pe_int))
      (pss_cons (ps_for PassesOwn.never rfl (pi_listK (K := K) rfl (pv 5)) (pg_name (i := 3) sc_free_offsets.nd rfl (.inr rfl))
      (pss_one (ps_for PassesOwn.never rfl (pi_listK (K := K) rfl (pv 2)) (pg_name (i := 7) sc_free_offsets.nd rfl (.inl rfl))
      (pss_one (ps_if (PW.pt (pw_and (pt_cmpR (op_niK (K := K) rfl) (pv 7) (pv 5) (by rfl)) (pw_and1 (pt_cmpR op_notN (pe_dget (hu_of hr) (pe_fldK (K := K) rfl (pv 0) rfl) (pe_tup (pa_cons (pv 3) (pa_cons (pv 7) pa_nil))) (fun _ _ => rfl)) (pe_non) (nomark _))))) (pss_one (ps_set (i := 9) sc_free_offsets.nd rfl (.inl rfl) (pe_callB (id := "max") (call_max2 rfl) (by rfl) T.f_max (by decide +kernel) (pa_cons (pv 9) (pa_cons (pe_op op_sub (pe_op op_sub (pe_dget (hu_of hr) (pv 4) (pv 7) (fun _ _ => rfl)) (pe_dget (hu_of hr) (pe_fldK (K := K) rfl (pv 0) rfl) (pe_tup (pa_cons (pv 3) (pa_cons (pv 7) pa_nil))) (fun _ _ => rfl))) (pe_dget (hu_of hr) (pv 6) (pv 3) (fun _ _ => rfl))) pa_nil))))) pss_nil)))))
      (pss_cons (ps_for PassesOwn.never rfl (pi_listK (K := K) rfl (pv 5)) (pg_name (i := 3) sc_free_offsets.nd rfl (.inr rfl))
      (pss_one (ps_dput (hu_of hr) (pv 4) (pv 3) (pe_op op_add (pv 9) (pe_dget (hu_of hr) (pv 6) (pv 3) (fun _ _ => rfl))) rfl)))
      (pss_one (ps_ret (pe_tup (pa_cons (pv 4) (pa_cons (pv 5) pa_nil))))))))))))), ?_⟩
    obtain ⟨dx0, fs0, m0, mh, _, _⟩ := hx.m
    refine ⟨_, rfl, x, dx0, fs0, rfl, m0, mh, x, W, rfl, hx, fun l H1 s1 n1 hl => ?_⟩
    have hx1 := hx.same s1
    refine ⟨_, rfl, l, rfl, ⟨_, .of hl⟩, fun F nF => ?_⟩
    refine dcw (hs := W.hs) (fun _ v h => v = optI (off0 W one h)) (wk_hands (.of hl)) hd (by omega) (fun _ _ _ _ _ h => h) ?_ nF ?_
    · intro h hh H2 Nx s2 go
      refine ⟨rfl, _, rfl, _, rfl, _, rfl, rfl, _, rfl, ?_⟩
      have e : decide (hv h = hv one) = decide (h = one) := hv_dec h one
      rw [e]
      by_cases c : h = one
      · rw [decide_eq_true c]
        exact go _ _ (.refl _) (by unfold off0; rw [if_pos c]; rfl)
      · rw [decide_eq_false c]
        obtain ⟨dx, fs, a5, h0, h5, hf⟩ := (hx1.same s2).far
        refine ⟨_, rfl, x, _, dx, fs, _, rfl, h0, logCls T, no_far T, h5, _, rfl, _, rfl, by show 2 ≤ sizeLine; decide, fun q1 nq => ?_⟩
        have sq := same_new (o := .tup [hv one, hv h]) nq
        exact ⟨a5, _, rfl, (hf.same sq).get h1 hh upd_same, go _ _ sq (by unfold off0; rw [if_neg c])⟩
    · intro v H2 s2 hF hv2
      have ev : dh W.hs v = dh W.hs fun h => optI (off0 W one h) := List.map_congr_left fun h hh => by rw [hv2 h hh]
      rw [ev] at hF
      have hl2 := s2 _ _ hl
      refine ⟨_, rfl, l, rfl, ⟨_, .of hl2⟩, fun G nG => ?_⟩
      refine lcw (us := W.hs) (fun _ v u => v = hv u) (fun _ v u => v = hv u) (fun h => decide (off0 W one h = none)) id (wk_hands (.of hl2)) (fun _ _ _ _ _ h => h) (Nat.le_trans h6 (by decide)) ?_ nG ?_
      · rintro i _ u H3 QF QT hu rfl s3 qf qt
        refine ⟨rfl, _, rfl, _, rfl, F, _, rfl, get_dh (.of (s3 _ _ hF)) (mem_of i hu), rfl, _, rfl, ?_⟩
        cases e : off0 W one u with
        | none => exact ⟨_, rfl, qt (by rw [e]; rfl) _ _ (.refl _) rfl⟩
        | some y => exact qf (by rw [e]; rfl) _ (.refl _)
      · intro ys H3 s3 hG hP
        rw [List.map_id] at hP
        have ey : ys = (frees W one).map hv := pr_eq hv hP
        subst ey
        intro L nL
        have s4 := same_new (o := .dK []) nL
        have hx3 := (hx1.same s2).same s3
        have hl3 := s3 _ _ hl2
        have hF3 := s3 _ _ hF
        have fl : (frees W one).length ≤ 6 := Nat.le_trans (List.length_filter_le _ _) h6
        have fnd : (frees W one).Nodup := hd.filter _
        have wkG : Wk (Itl K G) H3 (frees W one) (fun _ v u => v = hv u) := wk_hands (.of hG)
        -- the lows
        refine ⟨_, rfl, G, rfl, ⟨_, .of (s4 _ _ hG)⟩, ?_⟩
        refine for_wk (Hb := H3) wkG (fun i σ H' => Same H3 H' ∧ (∃ x3 x7 x8 x9 x10, σ = [some (.ref x), some (hv one), some (.ref l), x3, some (.ref F), some (.ref G), some (.ref L), x7, x8, x9, x10]) ∧ ∃ lo, H' L = some (.dK (dh ((frees W one).take i) fun h => .int (lo h))) ∧ ∀ h ∈ (frees W one).take i, IsLow W one h (lo h))
          ⟨s4, ⟨_, _, _, _, _, rfl⟩, fun _ => 0, upd_same, fun h hh => by simp at hh⟩ (fun _ _ _ h => h.1) ?_ ?_
        · rintro i h _ σ H0 H4 hu ⟨s0, ⟨x3, x7, x8, x9, x10, rfl⟩, lo, hL, hlo⟩ s04 rfl
          have hm := mem_of i hu
          obtain ⟨hh, hn⟩ := mem_frees.mp hm
          have s5 := s0.trans s04
          have hL4 := s04 _ _ hL
          refine ⟨_, rfl, G, rfl, ⟨_, .of (s5 _ _ hG)⟩, fun D nD => ?_⟩
          refine lcw (us := frees W one) (fun _ v u => v = hv u) (fun _ v u => v = optI u) (fun o => !decide (o = h)) (fun o => W.far o h) (wkG.same s5) (fun _ _ _ _ _ h => h) (Nat.le_trans fl (by decide)) ?_ nD ?_
          · rintro j _ o H5 QF QT ho rfl s6 qf qt
            have hom := (mem_frees.mp (mem_of j ho)).1
            refine ⟨rfl, _, rfl, _, rfl, rfl, _, rfl, ?_⟩
            have e : (!decide (hv o = hv h)) = !decide (o = h) := by rw [hv_dec]
            rw [e]
            cases c : !decide (o = h) with
            | false => exact qf c _ (.refl _)
            | true =>
              obtain ⟨dx, fs, a5, h0, h5, hf⟩ := (hx3.same (s5.trans s6)).far
              refine ⟨_, rfl, x, _, dx, fs, _, rfl, h0, logCls T, no_far T, h5, _, rfl, _, rfl, by show 2 ≤ sizeLine; decide, fun q1 nq => ?_⟩
              have sq := same_new (o := .tup [hv o, hv h]) nq
              exact ⟨a5, _, rfl, (hf.same sq).get hom hh upd_same, qt c _ _ sq rfl⟩
          · intro ys H5 s6 hD hPs
            refine ⟨by show 1 ≤ sizeLine; decide, fun Z nZ => ?_⟩
            have sZ := same_new (o := .lst [.int 0]) nZ
            refine ⟨_, rfl, D, rfl, ⟨_, .of (sZ _ _ hD)⟩, fun D2 nD2 => ?_⟩
            refine lcw (us := ((frees W one).filter fun o => !decide (o = h)).map fun o => W.far o h) (fun _ v u => v = optI u) (fun _ v u => v = .int u) (fun x => x.isSome) (fun x => x.getD 0) (wk_list (.of (sZ _ _ hD)) hPs fun _ _ _ _ _ h => h) (fun _ _ _ _ _ h => h) ?_ ?_ nD2 ?_
            · rw [List.length_map]
              exact Nat.le_trans (List.length_filter_le _ _) (Nat.le_trans fl (by decide))
            · rintro j _ u H6 QF QT ho rfl s7 qf qt
              refine ⟨rfl, _, rfl, rfl, _, rfl, ?_⟩
              cases u with
              | none => exact qf rfl _ (.refl _)
              | some y => exact ⟨_, rfl, qt rfl _ _ (.refl _) rfl⟩
            · intro zs H6 s7 hD2 hPz
              have ez : zs = (lowL W one h).map V.int := pr_eq V.int hPz
              subst ez
              have sum := (s5.trans s6).trans (sZ.trans s7)
              refine ⟨Z, D2, [.int 0], _, rfl, rfl, s7 _ _ upd_same, hD2, ?_, fun p2 n2 => ?_⟩
              · have : ((lowL W one h).map V.int).length ≤ 6 := by
                  rw [List.length_map]
                  unfold lowL
                  rw [List.length_map]
                  refine Nat.le_trans (List.length_filter_le _ _) ?_
                  rw [List.length_map]
                  exact Nat.le_trans (List.length_filter_le _ _) fl
                exact Nat.le_trans (Nat.add_le_add_left this 1) (by decide)
              have s8 := same_new (o := .lst ([.int 0] ++ (lowL W one h).map V.int)) n2
              refine ⟨p2, 0 :: lowL W one h, rfl, .of upd_same, by show 0 < (lowL W one h).length + 1; omega, fun m hm1 hm2 => ?_⟩
              have hLe := s8 _ _ (s7 _ _ (sZ _ _ (s6 _ _ hL4)))
              have hnot : h ∉ (frees W one).take i := fun c => by
                obtain ⟨j, hj⟩ := List.mem_iff_getElem?.mp c
                rw [List.getElem?_take] at hj
                split at hj
                · have := (List.getElem?_inj (List.getElem?_eq_some_iff.mp hu).1 fnd).mp (hu.trans hj.symm)
                  omega
                · cases hj
              refine ⟨_, rfl, _, rfl, L, _, rfl, .inl ⟨_, hk1 h, hLe, rfl, ?_, rfl⟩, ?_⟩
              · rw [List.length_map, List.length_take]
                exact small1000 (by omega)
              · rw [put_dh_new _ hnot]
                have nLH : H3 L = none := nL
                refine ⟨same_mut (sum.trans s8) nLH, ⟨_, _, _, _, _, rfl⟩, fun z => if z = h then m else lo z, ?_, fun z hz => ?_⟩
                · rw [upd_same, take_succ' hu]
                  congr 2
                  apply List.map_congr_left
                  intro z _
                  by_cases c : z = h
                  · simp [c]
                  · simp [c]
                · rw [take_succ' hu] at hz
                  show IsLow W one z (if z = h then m else lo z)
                  by_cases c : z = h
                  · subst c
                    rw [if_pos rfl]
                    exact ⟨hm1, hm2⟩
                  · rw [if_neg c]
                    rcases List.mem_append.mp hz with y | y
                    · exact hlo z y
                    · simp at y; exact (c y).elim
        · rintro σ H4 ⟨s0, ⟨x3, x7, x8, x9, x10, rfl⟩, lo, hL, hlo⟩
          rw [List.take_length] at hL hlo
          have hx4 := hx3.same s0
          have hG4 := s0 _ _ hG
          have hl4 := s0 _ _ hl3
          have hF4 := s0 _ _ hF3
          have wk4 := wkG.same s0
          -- the greatest need
          refine ⟨_, rfl, G, rfl, ⟨_, .of hG4⟩, ?_⟩
          refine for_wk (Hb := H4) wk4 (fun i σ H' => Same H4 H' ∧ ∃ u x3 x7 x8 x10, σ = [some (.ref x), some (hv one), some (.ref l), x3, some (.ref F), some (.ref G), some (.ref L), x7, x8, some (.int u), x10] ∧ UpW W one lo u ∧ 0 ≤ u ∧ ∀ h ∈ (frees W one).take i, ∀ o ∈ W.hs, o ∉ frees W one → ∀ z, W.far h o = some z → (off0 W one o).getD 0 - z - lo h ≤ u)
            ⟨.refl _, 0, _, _, _, _, rfl, .inl rfl, Int.le_refl _, fun h hh => by simp at hh⟩ (fun _ _ _ h => h.1) ?_ ?_
          · rintro i h _ σ H0 H5 hu ⟨s5, u, x3, x7, x8, x10, rfl, uw, u0, hub⟩ s05 rfl
            have hm := mem_of i hu
            obtain ⟨hh, hn⟩ := mem_frees.mp hm
            have s45 := s5.trans s05
            refine ⟨_, rfl, l, rfl, ⟨_, .of (s45 _ _ hl4)⟩, ?_⟩
            refine for_wk (Hb := H4) ((wk_hands (.of hl4))) (fun j σ H' => Same H4 H' ∧ ∃ u x7 x8 x10, σ = [some (.ref x), some (hv one), some (.ref l), some (hv h), some (.ref F), some (.ref G), some (.ref L), x7, x8, some (.int u), x10] ∧ UpW W one lo u ∧ 0 ≤ u ∧ (∀ h ∈ (frees W one).take i, ∀ o ∈ W.hs, o ∉ frees W one → ∀ z, W.far h o = some z → (off0 W one o).getD 0 - z - lo h ≤ u) ∧ ∀ o ∈ W.hs.take j, o ∉ frees W one → ∀ z, W.far h o = some z → (off0 W one o).getD 0 - z - lo h ≤ u)
              ⟨s45, u, _, _, _, rfl, uw, u0, hub, fun h hh => by simp at hh⟩ (fun _ _ _ h => h.1) ?_ ?_
            · rintro j o _ σ H6 H7 ho ⟨s6, u, x7, x8, x10, rfl, uw, u0, hub, huj⟩ s67 rfl
              have hom := mem_of j ho
              have s7 := s6.trans s67
              refine ⟨_, rfl, _, rfl, G, _, rfl, .inl (.of (s7 _ _ hG4)), rfl, flat_hv _, _, rfl, ?_⟩
              rw [if_pos rfl, inV_hv]
              by_cases c : o ∈ frees W one
              · rw [decide_eq_true c]
                refine ⟨s7, u, _, _, _, rfl, uw, u0, hub, fun z hz nz y hy => ?_⟩
                rw [take_succ' ho] at hz
                rcases List.mem_append.mp hz with w | w
                · exact huj z w nz y hy
                · simp at w; subst w; exact (nz c).elim
              · rw [decide_eq_false c]
                obtain ⟨dx, fs, a5, h0, h5, hf⟩ := (hx4.same s7).far
                refine ⟨_, rfl, x, _, dx, fs, _, rfl, h0, logCls T, no_far T, h5, _, rfl, _, rfl, by show 2 ≤ sizeLine; decide, fun q1 nq => ?_⟩
                have sq := same_new (o := .tup [hv h, hv o]) nq
                refine ⟨a5, _, rfl, (hf.same sq).get hh hom upd_same, rfl, _, rfl, ?_⟩
                cases e : W.far h o with
                | none =>
                  refine ⟨s7.trans sq, u, _, _, _, rfl, uw, u0, hub, fun z hz nz y hy => ?_⟩
                  rw [take_succ' ho] at hz
                  rcases List.mem_append.mp hz with w | w
                  · exact huj z w nz y hy
                  · simp at w; subst w; rw [e] at hy; cases hy
                | some y =>
                  have s8 := s7.trans sq
                  obtain ⟨v, ev⟩ : ∃ v, off0 W one o = some v := by
                    cases e0 : off0 W one o with
                    | none => exact (c (mem_frees.mpr ⟨hom, e0⟩)).elim
                    | some v => exact ⟨v, rfl⟩
                  refine ⟨_, rfl, _, rfl, _, rfl, F, _, rfl, get_dh (.of (s8 _ _ hF4)) hom, ?_⟩
                  obtain ⟨dx2, fs2, a52, h02, h52, hf2⟩ := (hx4.same s8).far
                  refine ⟨_, rfl, x, _, dx2, fs2, _, rfl, h02, logCls T, no_far T, h52, _, rfl, _, rfl, by show 2 ≤ sizeLine; decide, fun q2 nq2 => ?_⟩
                  have sq2 := same_new (o := .tup [hv h, hv o]) nq2
                  refine ⟨a52, _, rfl, (hf2.same sq2).get hh hom upd_same, v, y, by rw [ev]; rfl, by rw [e]; rfl, ?_⟩
                  have s9 := s8.trans sq2
                  refine ⟨_, rfl, _, rfl, L, _, rfl, get_dh (.of (s9 _ _ hL)) hm, _, _, rfl, rfl, ?_⟩
                  refine ⟨_, _, rfl, s9, _, _, _, _, rfl, ?_, ?_, fun z hz w1 w2 w3 y3 hy3 => ?_, fun z hz nz y3 hy3 => ?_⟩
                  · split
                    · exact .inr ⟨h, hm, o, hom, v, y, ev, e, rfl⟩
                    · exact uw
                  · split <;> omega
                  · have := hub z hz w1 w2 w3 y3 hy3
                    split <;> omega
                  · rw [take_succ' ho] at hz
                    rcases List.mem_append.mp hz with w | w
                    · have := huj z w nz y3 hy3
                      split <;> omega
                    · simp at w
                      subst w
                      rw [e] at hy3
                      cases hy3
                      rw [ev]
                      show v - y - lo h ≤ _
                      split <;> omega
            · rintro σ H6 ⟨s6, u, x7, x8, x10, rfl, uw, u0, hub, huj⟩
              rw [List.take_length] at huj
              refine ⟨s6, u, _, _, _, _, rfl, uw, u0, fun z hz => ?_⟩
              rw [take_succ' hu] at hz
              rcases List.mem_append.mp hz with w | w
              · exact hub z w
              · simp at w
                subst w
                exact huj
          · rintro σ H5 ⟨s5, up, x3, x7, x8, x10, rfl, uw, u0, hub⟩
            rw [List.take_length] at hub
            have FO : FreeOff W one up lo := ⟨hlo, u0, uw, hub⟩
            have hG5 := s5 _ _ hG4
            have hF5 := s5 _ _ hF4
            have hL5 := s5 _ _ hL
            have GF : G ≠ F := ne_of hG5 hF5 fun z => by cases z
            have nFH : H F = none := s1.free nF
            have LF : L ≠ F := (ne_of_none hF3 nL).symm
            have sH5 : Same H1 H5 := ((s2.trans s3).trans s0).trans s5
            -- the free ones
            refine ⟨_, rfl, G, rfl, ⟨_, .of hG5⟩, ?_⟩
            refine for_list (xs := (frees W one).map hv) (fun i σ H' => (∃ x3 x7 x8 x10, σ = [some (.ref x), some (hv one), some (.ref l), x3, some (.ref F), some (.ref G), some (.ref L), x7, x8, some (.int up), x10]) ∧ SameB F H5 H' ∧
              H' F = some (.dK (dh W.hs fun h => if h ∈ (frees W one).take i then .int (up + lo h) else optI (off0 W one h)))) ⟨⟨_, _, _, _, rfl⟩, .refl, ?_⟩ (fun i σ H' _ h => .of (h.2.1 _ _ GF hG5)) ?_ ?_
            · rw [hF5]
              rfl
            · rintro i z σ H6 hz ⟨⟨x3, x7, x8, x10, rfl⟩, s6, hF6⟩
              rw [List.getElem?_map] at hz
              obtain ⟨h, hu, rfl⟩ := Option.map_eq_some_iff.mp hz
              have hm := mem_of i hu
              obtain ⟨hh, hn⟩ := mem_frees.mp hm
              refine ⟨_, rfl, _, rfl, _, rfl, L, _, rfl, get_dh (.of (s6 _ _ LF hL5)) hm, _, _, rfl, rfl, ?_⟩
              refine ⟨_, rfl, _, rfl, F, _, rfl, put_dk _ hF6 hh (by omega), ⟨_, _, _, _, rfl⟩, s6.trans sameB_upd, ?_⟩
              rw [upd_same, take_succ' hu]
              congr 2
              apply List.map_congr_left
              intro y _
              show (hk1 y, _) = (hk1 y, _)
              by_cases c : y = h
              · subst c
                have : y ∈ (frees W one).take i ++ [y] := by simp
                simp only [if_pos this, if_true]
              · have e : (y ∈ (frees W one).take i ++ [h]) ↔ y ∈ (frees W one).take i := by
                  simp [c]
                simp only [if_neg c, e]
            · rintro σ H6 ⟨⟨x3, x7, x8, x10, rfl⟩, s6, hF6⟩
              rw [List.length_map, List.take_length] at hF6
              have eF : (dh W.hs fun h => if h ∈ frees W one then (.int (up + lo h) : V) else optI (off0 W one h)) = dh W.hs fun h => .int (offF W one up lo h) := by
                apply List.map_congr_left
                intro h hh
                show (hk1 h, if h ∈ frees W one then (.int (up + lo h) : V) else optI (off0 W one h)) = (hk1 h, V.int (offF W one up lo h))
                by_cases c : h ∈ frees W one
                · rw [if_pos c]
                  have := (mem_frees.mp c).2
                  unfold offF
                  rw [this]
                · rw [if_neg c]
                  cases e : off0 W one h with
                  | none => exact (c (mem_frees.mpr ⟨hh, e⟩)).elim
                  | some v =>
                    unfold offF
                    rw [e]
                    rfl
              rw [eF] at hF6
              refine ⟨_, rfl, _, rfl, by show 2 ≤ sizeLine; decide, fun p np => ?_⟩
              have sp := same_new (o := .tup [.ref F, .ref G]) np
              have sAll : Same H1 H6 := fun b o hb => s6 _ _ (ne_of_none hb nF) (sH5 _ _ hb)
              exact q p F G _ up lo ((s1.trans sAll).trans sp) ((s1.trans sAll).free np) FO upd_same (sp _ _ hF6) (sp _ _ (s6 _ _ GF hG5))
def spFarOff (K : PySem.W.Frag) : Sp := fun vs H Q _ => ∃ (x : Addr) (W : Wd) (one : Nat), vs = [.ref x, hv one] ∧ LogAt K H x W ∧ one ∈ W.hs ∧ W.hs.Nodup ∧ W.hs.length ≤ 6 ∧ (∀ h ∈ W.hs, h < 6) ∧
  ∀ p H' up lo, Same H H' → H p = none → FreeOff W one up lo → RdK H' p W.hs (fun h => (offF W one up lo h, 1)) → Q (.ref p) H'
theorem dh_keys {hs : List Nat} {v : Nat → V} {H1 : Hp} {a : Addr} {o : Obj} (h : H1 a = some (.frz o (.dK (dh hs v)))) : Wk (Itk a o (dh hs v)) H1 hs (fun _ v u => v = hv u) := by
  have w := wk_keys h
  refine ⟨fun i u H hu s => ?_, fun H s => by have := w.2 H s; rwa [List.length_map] at this⟩
  have e : (dh hs v)[i]? = some (hk1 u, v u) := by rw [List.getElem?_map, hu]; rfl
  exact w.1 i _ H e s
theorem ok_faroff (T : Txt K mg) : CallOk P w K mg base CX0 3 "far_offsets" ["log", "one"] [] (spFarOff K) := by
  have M_hands : MethOk P w K mg base CX0 1 (aLog K) "hands" ["self"] (spHands K) := m_hands T
  have C_is_hand_of : CallOk P w K mg base CX0 2 "is_hand_of" ["thing", "hands"] [] spIsHandOf := ok_is_hand_of T
  have C_free_offsets : CallOk P w K mg base CX0 2 "free_offsets" ["log", "one"] [] (spFO K) := ok_fo T
  refine def_ok (st := s_far_offsets) T 28 22 rfl rfl sc_far_offsets (fun _ _ _ _ _ _ us hl => match us, hl with | [_, _], _ => rfl) (fun vs H Q E h => ?_) (fun cdv f A outer s H vs Q E hr h => ?_)
  · obtain ⟨x, W, one, rfl, _⟩ := h
    rfl
  · obtain ⟨x, W, one, rfl, hx, h1, hd, h6, h66, q⟩ := h
    refine ⟨_, PSs.nox (pss_cons (ps_if (pt_not (pt_val (pe_callT C_is_hand_of (hr.mono (by decide)) (by rfl) pass0 (pa_cons (pv 1) (pa_cons (pe_meth0T M_hands (logCls T) (hr.mono (by decide)) pass0 (pv 0)) pa_nil))))) (pss_one (ps_never)) pss_nil)
      (pss_cons (ps_set (i := 2) sc_far_offsets.nd rfl (.inr rfl) (pe_ix (ix_tupK (K := K) rfl) (pe_callT C_free_offsets (hr.mono (by decide)) (by rfl) pass0 (pa_cons (pv 0) (pa_cons (pv 1) pa_nil))) (pe_int) (fun _ _ => rfl)))
      (pss_one (ps_ret (pe_lock (pe_dcA (.dK []) (.inl rfl) (hu_of hr) (own := [("hand", 3)]) (by rfl) sc_far_offsets.nd (pi_keys (pv 2)) (blkOk_by (own := [("hand", 3)]) (N := ["log", "one", "found", "hand"]) (sc := defScope (topS 38)) (by decide +kernel)) (fun _ _ _ _ _ => (pg_name (i := 3) sc_far_offsets.nd rfl (.inl rfl))) (fun _ _ _ _ _ => pts_nil) (fun _ _ _ _ _ => (pv 3)) (fun _ _ _ _ _ => (pe_tup (pa_cons (pe_dget (hu_of hr) (pv 2) (pv 3) (fun _ _ => rfl)) (pa_cons (pe_int) pa_nil)))))))))), ?_⟩
    obtain ⟨dx0, fs0, m0, mh, _, _⟩ := hx.m
    refine ⟨_, rfl, _, rfl, x, dx0, fs0, rfl, m0, mh, x, W, rfl, hx, fun l H1 s1 n1 hl => ?_⟩
    refine ⟨one, l, W.hs, rfl, h66 one h1, hl, fun H2 s2 => ⟨_, rfl, ?_⟩⟩
    rw [decide_eq_true h1]
    refine ⟨_, rfl, _, rfl, x, W, one, rfl, (hx.same s1).same s2, h1, hd, h6, fun p d fl H3 up lo s3 n3 FO hp hdd hfl => ?_⟩
    refine ⟨p, _, 0, _, rfl, rfl, .of hp, rfl, ?_⟩
    refine ⟨d, _, hdd, trivial, fun od => ⟨_, rfl, d, od, rfl, .inl ⟨_, upd_same, fun D nD => ?_⟩⟩⟩
    refine dcw (hs := W.hs) (fun H v h => ∃ b, v = .ref b ∧ FrAt H b (offF W one up lo h, 1)) (dh_keys upd_same) hd (by omega) (fun _ _ _ _ k ⟨b, e, h⟩ => ⟨b, e, k _ _ h⟩) ?_ nD ?_
    · intro h hh H4 Nx s4 go
      refine ⟨rfl, _, rfl, _, rfl, _, rfl, d, _, rfl, get_dh (.inr ⟨od, s4 _ _ upd_same⟩) hh, by show 2 ≤ sizeLine; decide, fun b nb => go _ _ (same_new nb) ⟨b, rfl, upd_same⟩⟩
    · intro v H4 s4 hD hv4
      refine ⟨s4 _ _ upd_same, ?_⟩
      have sH := unlock s4 hdd
      have nDH : H3 D = none := by
        have : D ≠ d := (ne_of_none upd_same nD).symm
        rw [upd_ne this] at nD
        exact nD
      have Da : D ≠ d := (ne_of_none hdd nDH).symm
      refine q D _ up lo (((s1.trans s2).trans s3).trans sH) (((s1.trans s2).trans s3).free nDH) FO ⟨v, by rw [upd_ne Da]; exact hD, fun h hh => ?_⟩
      obtain ⟨b, e1, e2⟩ := hv4 h hh
      have : b ≠ d := ne_of e2 (s4 _ _ upd_same) fun z => by cases z
      exact ⟨b, e1, (upd_ne this).trans e2⟩
end
end K80

set_option maxHeartbeats 4000000
/-! the best ring, the best bound, the loose pair -/
namespace K80
open PySem PySem.Spec L2
open PyProof.Rows hiding St
abbrev s_best_ring : Stmt := (topS 42)
theorem sc_best_ring : FnScope ["log", "best", "ring", "many", "pair"] ["log"] (defScope s_best_ring) := ⟨rfl, rfl, rfl, by decide +kernel, rfl, by decide +kernel, by decide +kernel⟩


section
variable {P : Program} {w : World} {K : PySem.W.Frag} {mg : Str → Option Value} {base : Heap}
theorem ring_row {hs : List Nat} {r : List Nat} (h : r ∈ rings hs) : 2 ≤ r.length ∧ r.length ≤ hs.length + 1 ∧ r.Nodup ∧ ∀ x ∈ r, x ∈ hs := by
  unfold rings ringsN at h
  obtain ⟨k, hk, hr⟩ := List.mem_flatMap.mp h
  obtain ⟨h1, h2, h3⟩ := lvl_row hr
  have := List.mem_range.mp hk
  exact ⟨by omega, by omega, h2, h3⟩
theorem rings_pair {hs : List Nat} {a b : Nat} (ha : a ∈ hs) (hb : b ∈ hs) (h : a < b) (h2 : 1 ≤ hs.length) : [a, b] ∈ rings hs := by
  unfold rings ringsN
  refine List.mem_flatMap.mpr ⟨0, List.mem_range.mpr (by omega), ?_⟩
  show [a, b] ∈ nextLv hs (lvl hs 0)
  refine List.mem_flatMap.mpr ⟨[a], List.mem_map.mpr ⟨a, ha, rfl⟩, List.mem_map.mpr ⟨b, List.mem_filter.mpr ⟨hb, ?_⟩, rfl⟩⟩
  unfold rowP
  simp
  omega
theorem rings_ne {hs : List Nat} (h2 : 2 ≤ hs.length) (hd : hs.Nodup) : rings hs ≠ [] := by
  match hs, h2, hd with
  | a :: b :: r, _, hd =>
    intro e
    have ne : a ≠ b := fun z => by subst z; simp at hd
    rcases Nat.lt_or_gt_of_ne ne with c | c
    · have := rings_pair (hs := a :: b :: r) (by simp) (by simp) c (by simp)
      rw [e] at this; cases this
    · have := rings_pair (hs := a :: b :: r) (a := b) (b := a) (by simp) (by simp) c (by simp)
      rw [e] at this; cases this
/-- neighbours round a ring are unlike -/
theorem zip_rot_ne {r : List Nat} (hd : r.Nodup) (h2 : 2 ≤ r.length) {p : Nat × Nat} (hp : p ∈ r.zip (r.drop 1 ++ r.take 1)) : p.1 ≠ p.2 := by
  obtain ⟨i, hi⟩ := List.mem_iff_getElem?.mp hp
  rw [List.getElem?_zip_eq_some] at hi
  obtain ⟨e1, e2⟩ := hi
  intro e
  have hi1 := (List.getElem?_eq_some_iff.mp e1).1
  by_cases c : i < (r.drop 1).length
  · rw [List.getElem?_append_left c, List.getElem?_drop] at e2
    rw [e] at e1
    have := (List.getElem?_inj hi1 hd).mp (e1.trans e2.symm)
    omega
  · rw [List.getElem?_append_right (by omega), List.getElem?_take] at e2
    split at e2
    · rename_i h0
      have h1 : (r.drop 1).length = r.length - 1 := List.length_drop ..
      rw [e] at e1
      have e3 : i - (r.drop 1).length = 0 := by omega
      rw [e3] at e2
      have := (List.getElem?_inj hi1 hd).mp (e1.trans e2.symm)
      omega
    · cases e2
def AllSome (W : Wd) : Prop := ∀ l ∈ pairs W.hs, ∃ v, W.far l.1 l.2 = some v
theorem ring_steps {W : Wd} (ha : AllSome W) {r : List Nat} (hr : r ∈ rings W.hs) : ∀ o ∈ rsteps W.far r, ∃ a b v, a ∈ W.hs ∧ b ∈ W.hs ∧ W.far a b = some v ∧ o = some v := by
  obtain ⟨h2, _, hd, hin⟩ := ring_row hr
  intro o ho
  unfold rsteps at ho
  obtain ⟨p, hp, rfl⟩ := List.mem_map.mp ho
  obtain ⟨i1, i2⟩ := zip_rot_mem hin hp
  obtain ⟨v, hv1⟩ := ha p (mem_pairs.mpr ⟨i1, i2, zip_rot_ne hd h2 hp⟩)
  exact ⟨_, _, v, i1, i2, hv1, hv1⟩
theorem rsum_some {W : Wd} (ha : AllSome W) {r : List Nat} (hr : r ∈ rings W.hs) : rsum W.far r = some ((rsteps W.far r).map (·.getD 0)).sum := by
  unfold rsum
  rw [if_neg]
  intro c
  obtain ⟨_, _, _, _, _, _, e⟩ := ring_steps ha hr _ c
  cases e
theorem sum_sz {n : Nat} : ∀ {l : List Int}, (∀ x ∈ l, x.natAbs < 2 ^ n) → l.sum.natAbs ≤ l.length * 2 ^ n
  | [], _ => by simp
  | x :: l, h => by
    have h1 := h x List.mem_cons_self
    have h2 := sum_sz (l := l) fun y hy => h y (List.mem_cons_of_mem _ hy)
    rw [List.sum_cons, List.length_cons, Nat.succ_mul]
    omega
theorem rsteps_len (f : Dm) (r : List Nat) : (rsteps f r).length ≤ r.length := by
  unfold rsteps
  rw [List.length_map, List.length_zip]
  exact Nat.min_le_left _ _
theorem rsum_sz {W : Wd} (ha : AllSome W) (fz : FarSz W) (h5 : W.hs.length ≤ 5) {r : List Nat} (hr : r ∈ rings W.hs) : ((rsum W.far r).getD 0).natAbs < 2 ^ 403 := by
  rw [rsum_some ha hr]
  show (((rsteps W.far r).map fun o : Option Int => o.getD 0).sum : Int).natAbs < 2 ^ 403
  have h1 := sum_sz (n := 400) (l := (rsteps W.far r).map fun o : Option Int => o.getD 0) (fun x hx => by
    obtain ⟨o, ho, rfl⟩ := List.mem_map.mp hx
    obtain ⟨a, b, v, i1, i2, e, rfl⟩ := ring_steps ha hr o ho
    exact fz a b v i1 i2 e)
  rw [List.length_map] at h1
  have h2 := rsteps_len W.far r
  obtain ⟨_, h3, _⟩ := ring_row hr
  have h4 : (rsteps W.far r).length * 2 ^ 400 ≤ 6 * 2 ^ 400 := Nat.mul_le_mul_right _ (by omega)
  have h5' : 6 * 2 ^ 400 < 2 ^ 403 := by decide
  omega
theorem pairs_len (hs : List Nat) : (pairs hs).length ≤ hs.length * hs.length := by
  unfold pairs
  rw [List.length_flatMap]
  have : ∀ l : List Nat, (l.map fun u => ((hs.filter fun w => !decide (u = w)).map fun w => (u, w)).length).sum ≤ l.length * hs.length := by
    intro l
    induction l with
    | nil => simp
    | cons u l ih =>
      have := List.length_filter_le (fun w => !decide (u = w)) hs
      simp only [List.map_cons, List.sum_cons, List.length_map, List.length_cons, Nat.succ_mul]
      simp only [List.length_map] at ih
      omega
  exact this hs
def bestStep (f : Dm) (best : Option (List Nat)) (ring : List Nat) : Option (List Nat) := match best with
  | none => some ring
  | some b => if (rsum f b).getD 0 * (ring.length : Int) < (rsum f ring).getD 0 * (b.length : Int) then some ring else some b
def bestR (W : Wd) : Option (List Nat) := (rings W.hs).foldl (bestStep W.far) none
theorem best_mem {f : Dm} : ∀ {l : List (List Nat)} {b : Option (List Nat)} {r : List Nat}, l.foldl (bestStep f) b = some r → r ∈ l ∨ b = some r
  | [], _, _, h => .inr h
  | x :: l, b, r, h => by
    rcases best_mem (l := l) h with z | z
    · exact .inl (List.mem_cons_of_mem _ z)
    · unfold bestStep at z
      cases b with
      | none => cases z; exact .inl List.mem_cons_self
      | some b =>
        dsimp only at z
        split at z
        · cases z; exact .inl List.mem_cons_self
        · exact .inr z
structure WdOk (W : Wd) : Prop extends W.Ok where
  fz : FarSz W
def spBR (K : PySem.W.Frag) : Sp := fun vs H Q _ => ∃ (x : Addr) (W : Wd), vs = [.ref x] ∧ LogAt K H x W ∧ WdOk W ∧ (∀ H', Same H H' → (∃ k ∈ pairs W.hs, W.far k.1 k.2 = none) → Q .non H') ∧
  ∀ q H' r, Same H H' → H q = none → H' q = some (.lst (r.map hv)) → AllSome W → bestR W = some r → Q (.ref q) H'
theorem ok_br (T : Txt K mg) : CallOk P w K mg base CX0 2 "best_ring" ["log"] [] (spBR K) := by
  have C_all_pairs : CallOk P w K mg base CX0 1 "all_pairs" ["hands"] [] spAP := ok_ap T
  have C_all_rings : CallOk P w K mg base CX0 1 "all_rings" ["hands"] [] spAR := ok_ar T
  have C_ring_sum : CallOk P w K mg base CX0 1 "ring_sum" ["ring", "shifts"] [] spRS := ok_rs T
  have M_hands : MethOk P w K mg base CX0 1 (aLog K) "hands" ["self"] (spHands K) := m_hands T
  refine def_ok (st := s_best_ring) T 32 26 rfl rfl sc_best_ring (fun _ _ _ _ _ _ us hl => match us, hl with | [_], _ => rfl) (fun vs H Q E h => ?_) (fun cdv f A outer s H vs Q E hr h => ?_)
  · obtain ⟨x, W, rfl, _⟩ := h
    rfl
  · obtain ⟨x, W, rfl, hx, ok, q0, q⟩ := h
    refine ⟨_, PSs.nox (pss_cons (ps_if (pt_cmpR (op_inK (K := K) rfl) (pe_non) (pe_lc (own := [("pair", 4)]) (by rfl) sc_best_ring.nd (pi_listK (K := K) rfl (pe_callT C_all_pairs (hr.mono (by decide)) (by rfl) pass0 (pa_cons (pe_meth0T M_hands (logCls T) (hr.mono (by decide)) pass0 (pv 0)) pa_nil))) (blkOk_by (own := [("pair", 4)]) (N := ["log", "best", "ring", "many", "pair"]) (sc := defScope (topS 42)) (by decide +kernel)) (fun _ _ _ _ _ => (pg_name (i := 4) sc_best_ring.nd rfl (.inl rfl))) (fun _ _ _ _ _ => pts_nil) (fun _ _ _ _ _ => (pe_dget (hu_of hr) (pe_fldK (K := K) rfl (pv 0) rfl) (pv 4) (fun _ _ => rfl)))) (by rfl)) (pss_one (ps_ret (pe_non))) pss_nil)
      (pss_cons (ps_set (i := 1) sc_best_ring.nd rfl (.inl rfl) (pe_non))
      (pss_cons (ps_for PassesOwn.never rfl (pi_listK (K := K) rfl (pe_callT C_all_rings (hr.mono (by decide)) (by rfl) pass0 (pa_cons (pe_meth0T M_hands (logCls T) (hr.mono (by decide)) pass0 (pv 0)) pa_nil))) (pg_name (i := 2) sc_best_ring.nd rfl (.inl rfl))
      (pss_cons (ps_set (i := 3) sc_best_ring.nd rfl (.inl rfl) (pe_callT C_ring_sum (hr.mono (by decide)) (by rfl) pass0 (pa_cons (pv 2) (pa_cons (pe_fldK (K := K) rfl (pv 0) rfl) pa_nil))))
      (pss_one (ps_if (PW.pt (pw_or (pt_cmpR op_isN (pv 1) (pe_non) (nomark _)) (pw_or1 (pt_cmpR op_lt (pe_op op_mulW (pe_callT C_ring_sum (hr.mono (by decide)) (by rfl) pass0 (pa_cons (pv 1) (pa_cons (pe_fldK (K := K) rfl (pv 0) rfl) pa_nil))) (pe_callB (id := "len") (call_lenK (K := K) rfl) (by rfl) T.f_len (by decide +kernel) (pa_cons (pv 2) pa_nil))) (pe_op op_mulW (pv 3) (pe_callB (id := "len") (call_lenK (K := K) rfl) (by rfl) T.f_len (by decide +kernel) (pa_cons (pv 1) pa_nil))) (nomark _))))) (pss_one (ps_set (i := 1) sc_best_ring.nd rfl (.inl rfl) (pv 2))) pss_nil))))
      (pss_one (ps_ret (pe_callTy (T := "list") (call_lstK (K := K) rfl) (by rfl) T.f_list (by decide +kernel) (pa_cons (pv 1) pa_nil))))))), ?_⟩
    obtain ⟨dx0, fs0, m0, mh, _, _⟩ := hx.m
    refine ⟨_, rfl, x, dx0, fs0, rfl, m0, mh, x, W, rfl, hx, fun l1 H1 s1 n1 hl1 => ?_⟩
    refine ⟨l1, W.hs, rfl, hl1, by have := ok.h5; omega, fun p1 H2 s2 n2 hp1 => ?_⟩
    have hx2 := (hx.same s1).same s2
    refine ⟨p1, rfl, (let ⟨xs, e, _⟩ := hp1; ⟨xs, .of e⟩), fun D nD => ?_⟩
    have plen : (pairs W.hs).length ≤ 1000 := Nat.le_trans (pairs_len _) (Nat.le_trans (Nat.mul_le_mul ok.h5 ok.h5) (by decide))
    refine lcw (us := pairs W.hs) IsPr (fun _ v u => v = optI u) (fun _ => true) (fun k => W.far k.1 k.2) (wk_prs hp1) (fun _ _ _ _ _ h => h) (Nat.le_trans plen (by decide)) ?_ nD ?_
    · rintro i _ k H3 QF QT hu ⟨r, rfl, hr3⟩ s3 _ qt
      obtain ⟨ki, kj, kn⟩ := mem_pairs.mp (mem_of i hu)
      obtain ⟨dx, fs, a5, h0, h5, hf⟩ := (hx2.same s3).far
      exact ⟨rfl, _, rfl, x, _, dx, fs, _, rfl, h0, logCls T, no_far T, h5, _, rfl, a5, _, rfl, hf.get ki kj hr3, qt rfl _ _ (.refl _) rfl⟩
    · intro ys H3 s3 hD hP
      rw [filter_all] at hP
      have ey : ys = ((pairs W.hs).map fun k => W.far k.1 k.2).map optI := pr_eq optI hP
      subst ey
      refine ⟨D, _, rfl, .inl (.of hD), rfl, flat_opt _, _, rfl, ?_⟩
      rw [if_neg (by decide), inV_none]
      have s03 := (s1.trans s2).trans s3
      by_cases c : none ∈ (pairs W.hs).map fun k => W.far k.1 k.2
      · rw [decide_eq_true c]
        obtain ⟨k, hk, e⟩ := List.mem_map.mp c
        exact q0 _ s03 ⟨k, hk, e⟩
      · rw [decide_eq_false c]
        have ha : AllSome W := fun l hl => by
          cases e : W.far l.1 l.2 with
          | none => exact (c (List.mem_map.mpr ⟨l, hl, e⟩)).elim
          | some v => exact ⟨v, rfl⟩
        have hx3 := hx2.same s3
        obtain ⟨dx1, fs1, m1, mh1, _, _⟩ := hx3.m
        refine ⟨_, rfl, x, dx1, fs1, rfl, m1, mh1, x, W, rfl, hx3, fun l2 H4 s4 n4 hl2 => ?_⟩
        refine ⟨l2, W.hs, rfl, hl2, ok.h6, ok.h5, fun R H5 s5 n5 hR => ?_⟩
        obtain ⟨xr, hRl, hRp⟩ := hR
        have hx5 := (hx3.same s4).same s5
        refine ⟨R, rfl, ⟨_, .of hRl⟩, ?_⟩
        refine for_wk (Hb := H5) (wk_list (.of hRl) hRp (isT_same _)) (fun i σ H' => Same H5 H' ∧ ∃ b u v u4, σ = [some (.ref x), some b, u, v, u4] ∧ match ((rings W.hs).take i).foldl (bestStep W.far) none with
            | none => b = .non
            | some r => ∃ a, b = .ref a ∧ H' a = some (.tup (r.map hv))) ⟨.refl _, _, _, _, _, rfl, rfl⟩ (fun _ _ _ h => h.1) ?_ ?_
        · rintro i ring _ σ H0 H6 hu ⟨s6, b, u, v, u4, rfl, hb⟩ s06 ⟨rg, rfl, hrg⟩
          have s6' := s6.trans s06
          have hm := mem_of i hu
          obtain ⟨r2, r6, rnd, rin⟩ := ring_row hm
          have hx6 := hx5.same s6'
          obtain ⟨dx, fs, a5, h0, h5, hf⟩ := hx6.far
          have rs := rsum_some ha hm
          have rz := rsum_sz ha ok.fz ok.h5 hm
          refine ⟨_, rfl, _, rfl, x, _, dx, fs, _, rfl, h0, logCls T, no_far T, h5, rg, a5, ring, W.hs, W.far, rfl, .inr hrg, r2, by have := ok.h5; omega, rin, getAt_far hf, fun H7 s7 => ?_⟩
          have hrg7 := s7 _ _ hrg
          rw [foldl_take_succ hu]
          cases e : ((rings W.hs).take i).foldl (bestStep W.far) none with
          | none =>
            rw [e] at hb
            subst hb
            exact ⟨_, rfl, rfl, _, rfl, _, rfl, s6'.trans s7, _, _, _, _, rfl, rg, rfl, hrg7⟩
          | some bst =>
            rw [e] at hb
            obtain ⟨ba, rfl, hba⟩ := hb
            have hbm : bst ∈ rings W.hs := by
              rcases best_mem e with z | z
              · exact List.mem_of_mem_take z
              · cases z
            obtain ⟨b2, b6, bnd, bin⟩ := ring_row hbm
            have bs := rsum_some ha hbm
            have bz := rsum_sz ha ok.fz ok.h5 hbm
            have hba7 := s7 _ _ (s06 _ _ hba)
            obtain ⟨dx2, fs2, a52, h02, h52, hf2⟩ := (hx6.same s7).far
            refine ⟨_, rfl, rfl, _, rfl, ?_⟩
            refine ⟨_, rfl, _, rfl, x, _, dx2, fs2, _, rfl, h02, logCls T, no_far T, h52, ba, a52, bst, W.hs, W.far, rfl, .inr hba7, b2, by have := ok.h5; omega, bin, getAt_far hf2, fun H8 s8 => ?_⟩
            have hrg8 := s8 _ _ hrg7
            have hba8 := s8 _ _ hba7
            rw [bs] at bz ⊢
            rw [rs] at rz ⊢
            have lz : ∀ n : Nat, n ≤ 6 → ((n : Int)).natAbs < 2 ^ 3 := fun n hn => by
              show n < 2 ^ 3
              omega
            refine ⟨_, rfl, _, _, rfl, .inr ⟨_, .of hrg8, rfl⟩, _, _, rfl, rfl, wide_mul bz (lz _ (by rw [List.length_map]; have := ok.h5; omega)) (by decide) (by decide) (by decide), ?_⟩
            refine ⟨_, rfl, _, rfl, _, _, rfl, .inr ⟨_, .of hba8, rfl⟩, _, _, rfl, rfl, wide_mul rz (lz _ (by rw [List.length_map]; have := ok.h5; omega)) (by decide) (by decide) (by decide), _, _, rfl, rfl, _, rfl, ?_⟩
            have eb : bestStep W.far (some bst) ring = if (rsum W.far bst).getD 0 * (ring.length : Int) < (rsum W.far ring).getD 0 * (bst.length : Int) then some ring else some bst := rfl
            rw [eb, bs, rs]
            simp only [List.length_map]
            show if decide (_ < _) = true then _ else _
            by_cases c2 : ((rsteps W.far bst).map (·.getD 0)).sum * (ring.length : Int) < ((rsteps W.far ring).map (·.getD 0)).sum * (bst.length : Int)
            · rw [decide_eq_true c2]
              simp only [Option.getD_some, if_pos c2]
              exact ⟨_, rfl, s6'.trans (s7.trans s8), _, _, _, _, rfl, rg, rfl, hrg8⟩
            · rw [decide_eq_false c2]
              simp only [Option.getD_some, if_neg c2]
              exact ⟨s6'.trans (s7.trans s8), _, _, _, _, rfl, ba, rfl, hba8⟩
        · rintro σ H6 ⟨s6, b, u, v, u4, rfl, hb⟩
          rw [List.take_length] at hb
          have eb : (rings W.hs).foldl (bestStep W.far) none = bestR W := rfl
          rw [eb] at hb
          cases e : bestR W with
          | none =>
            have key : ∀ (l : List (List Nat)) (b : Option (List Nat)), l ≠ [] → l.foldl (bestStep W.far) b ≠ none := by
              intro l
              induction l with
              | nil => intro b h; exact (h rfl).elim
              | cons y l ih =>
                intro b _ h
                cases l with
                | nil =>
                  unfold bestStep at h
                  cases b with
                  | none => cases h
                  | some b =>
                    simp only [List.foldl_cons, List.foldl_nil] at h
                    split at h <;> cases h
                | cons z l => exact ih _ (by simp) h
            exact (key _ _ (rings_ne ok.h2 ok.nd) e).elim
          | some r =>
            rw [e] at hb
            obtain ⟨a, rfl, har⟩ := hb
            refine ⟨_, rfl, a, _, rfl, .inr (.of har), fun p np => ?_⟩
            have sp := same_new (o := .lst (r.map hv)) np
            have sA := s03.trans ((s4.trans s5).trans s6)
            exact q p _ r (sA.trans sp) (sA.free np) upd_same ha e
end
end K80

set_option maxHeartbeats 4000000
/-! the best bound, the loose pair, the best correction -/
namespace K80
open PySem PySem.Spec L2
open PyProof.Rows hiding St
abbrev s_best_bound : Stmt := (topS 43)
theorem sc_best_bound : FnScope ["log", "ring"] ["log"] (defScope s_best_bound) := ⟨rfl, rfl, rfl, by decide +kernel, rfl, by decide +kernel, by decide +kernel⟩
abbrev s_loose_pair : Stmt := (topS 46)
theorem sc_loose_pair : FnScope ["log", "pair"] ["log"] (defScope s_loose_pair) := ⟨rfl, rfl, rfl, by decide +kernel, rfl, by decide +kernel, by decide +kernel⟩
abbrev s_corrected : Stmt := (topS 44)
theorem sc_corrected : FnScope ["log", "bound", "hands", "found", "_", "one", "other", "hand"] ["log"] (defScope s_corrected) := ⟨rfl, rfl, rfl, by decide +kernel, rfl, by decide +kernel, by decide +kernel⟩
section
variable {P : Program} {w : World} {K : PySem.W.Frag} {mg : Str → Option Value} {base : Heap}
/-- the best bound as it is told -/
def IsBd (W : Wd) (z : Int × Int) : Prop := AllSome W ∧ ∃ r v, bestR W = some r ∧ r ∈ rings W.hs ∧ rsum W.far r = some v ∧ z = lowF v r.length
def spBB (K : PySem.W.Frag) : Sp := fun vs H Q _ => ∃ (x : Addr) (W : Wd), vs = [.ref x] ∧ LogAt K H x W ∧ WdOk W ∧ (∀ H', Same H H' → (∃ k ∈ pairs W.hs, W.far k.1 k.2 = none) → Q .non H') ∧
  ∀ p H' z, Same H H' → H p = none → FrAt H' p z → IsBd W z → Q (.ref p) H'
theorem ok_bb (T : Txt K mg) : CallOk P w K mg base CX0 3 "best_bound" ["log"] [] (spBB K) := by
  have C_best_ring : CallOk P w K mg base CX0 2 "best_ring" ["log"] [] (spBR K) := ok_br T
  have C_ring_sum : CallOk P w K mg base CX0 1 "ring_sum" ["ring", "shifts"] [] spRS := ok_rs T
  have C_lowest : CallOk P w K mg base CX0 1 "lowest" ["top", "bottom"] [] spLowest := ok_lowest T
  refine def_ok (st := s_best_bound) T 33 27 rfl rfl sc_best_bound (fun _ _ _ _ _ _ us hl => match us, hl with | [_], _ => rfl) (fun vs H Q E h => ?_) (fun cdv f A outer s H vs Q E hr h => ?_)
  · obtain ⟨x, W, rfl, _⟩ := h
    rfl
  · obtain ⟨x, W, rfl, hx, ok, q0, q⟩ := h
    refine ⟨_, PSs.nox (pss_cons (ps_set (i := 1) sc_best_bound.nd rfl (.inl rfl) (pe_callT C_best_ring (hr.mono (by decide)) (by rfl) pass0 (pa_cons (pv 0) pa_nil)))
      (pss_one (ps_ret (pe_ifExp (pt_cmpR op_isN (pv 1) (pe_non) (nomark _)) (pe_non) (pe_callT C_lowest (hr.mono (by decide)) (by rfl) pass0 (pa_cons (pe_callT C_ring_sum (hr.mono (by decide)) (by rfl) pass0 (pa_cons (pv 1) (pa_cons (pe_fldK (K := K) rfl (pv 0) rfl) pa_nil))) (pa_cons (pe_callB (id := "len") (call_lenK (K := K) rfl) (by rfl) T.f_len (by decide +kernel) (pa_cons (pv 1) pa_nil)) pa_nil))))))), ?_⟩
    refine ⟨_, rfl, x, W, rfl, hx, ok, fun H1 s1 hb => ⟨_, rfl, rfl, _, rfl, q0 _ s1 hb⟩, fun p H1 r s1 n1 hp ha er => ⟨_, rfl, rfl, _, rfl, ?_⟩⟩
    have hrm : r ∈ rings W.hs := by
      rcases best_mem er with z | z
      · exact z
      · cases z
    obtain ⟨r2, r6, rnd, rin⟩ := ring_row hrm
    obtain ⟨dx, fs, a5, h0, h5, hf⟩ := (hx.same s1).far
    have rs := rsum_some ha hrm
    refine ⟨_, rfl, _, rfl, x, _, dx, fs, _, rfl, h0, logCls T, no_far T, h5, p, a5, r, W.hs, W.far, rfl, .inl hp, r2, by have := ok.h5; omega, rin, getAt_far hf, fun H2 s2 => ?_⟩
    rw [rs]
    refine ⟨_, rfl, _, _, rfl, .inl ⟨_, .of (s2 _ _ hp), rfl⟩, _, _, rfl, by simp; omega, ?_, fun b H3 s3 n3 hb3 => ?_⟩
    · rw [List.length_map]
      have : r.length ≤ 6 := by have := ok.h5; omega
      exact Nat.lt_of_le_of_lt this (by decide)
    · rw [List.length_map] at hb3
      exact q b H3 _ ((s1.trans s2).trans s3) ((s1.trans s2).free n3) hb3 ⟨ha, r, _, er, hrm, rs, rfl⟩
def spLP (K : PySem.W.Frag) : Sp := fun vs H Q _ => ∃ (x : Addr) (W : Wd), vs = [.ref x] ∧ LogAt K H x W ∧ WdOk W ∧ (∃ k ∈ pairs W.hs, W.far k.1 k.2 = none) ∧
  ∀ q H' (k : Nat × Nat), Same H H' → PrT H' q k.1 k.2 → k ∈ pairs W.hs → W.far k.1 k.2 = none → Q (.ref q) H'
theorem ok_lp (T : Txt K mg) : CallOk P w K mg base CX0 2 "loose_pair" ["log"] [] (spLP K) := by
  have C_all_pairs : CallOk P w K mg base CX0 1 "all_pairs" ["hands"] [] spAP := ok_ap T
  have M_hands : MethOk P w K mg base CX0 1 (aLog K) "hands" ["self"] (spHands K) := m_hands T
  refine def_ok (st := s_loose_pair) T 36 30 rfl rfl sc_loose_pair (fun _ _ _ _ _ _ us hl => match us, hl with | [_], _ => rfl) (fun vs H Q E h => ?_) (fun cdv f A outer s H vs Q E hr h => ?_)
  · obtain ⟨x, W, rfl, _⟩ := h
    rfl
  · obtain ⟨x, W, rfl, hx, ok, ⟨k0, hk0, hn0⟩, q⟩ := h
    refine ⟨_, PSs.nox (pss_one (ps_ret (pe_ix (ix_listK (K := K) rfl) (pe_lc (own := [("pair", 1)]) (by rfl) sc_loose_pair.nd (pi_listK (K := K) rfl (pe_callT C_all_pairs (hr.mono (by decide)) (by rfl) pass0 (pa_cons (pe_meth0T M_hands (logCls T) (hr.mono (by decide)) pass0 (pv 0)) pa_nil))) (blkOk_by (own := [("pair", 1)]) (N := ["log", "pair"]) (sc := defScope (topS 46)) (by decide +kernel)) (fun _ _ _ _ _ => (pg_name (i := 1) sc_loose_pair.nd rfl (.inl rfl))) (fun _ _ _ _ _ => pts_one (pt_cmpR op_isN (pe_dget (hu_of hr) (pe_fldK (K := K) rfl (pv 0) rfl) (pv 1) (fun _ _ => rfl)) (pe_non) (nomark _))) (fun _ _ _ _ _ => (pv 1))) (pe_int) (fun _ _ => rfl)))), ?_⟩
    obtain ⟨dx0, fs0, m0, mh, _, _⟩ := hx.m
    refine ⟨_, rfl, x, dx0, fs0, rfl, m0, mh, x, W, rfl, hx, fun l1 H1 s1 n1 hl1 => ?_⟩
    refine ⟨l1, W.hs, rfl, hl1, by have := ok.h5; omega, fun p1 H2 s2 n2 hp1 => ?_⟩
    have hx2 := (hx.same s1).same s2
    refine ⟨p1, rfl, (let ⟨xs, e, _⟩ := hp1; ⟨xs, .of e⟩), fun D nD => ?_⟩
    have plen : (pairs W.hs).length ≤ 1000 := Nat.le_trans (pairs_len _) (Nat.le_trans (Nat.mul_le_mul ok.h5 ok.h5) (by decide))
    refine lcw (us := pairs W.hs) IsPr IsPr (fun k => decide (W.far k.1 k.2 = none)) id (wk_prs hp1) isPr_keep (Nat.le_trans plen (by decide)) ?_ nD ?_
    · rintro i _ k H3 QF QT hu ⟨r, rfl, hr3⟩ s3 qf qt
      obtain ⟨ki, kj, kn⟩ := mem_pairs.mp (mem_of i hu)
      obtain ⟨dx, fs, a5, h0, h5, hf⟩ := (hx2.same s3).far
      refine ⟨rfl, _, rfl, x, _, dx, fs, _, rfl, h0, logCls T, no_far T, h5, _, rfl, a5, _, rfl, hf.get ki kj hr3, rfl, _, rfl, ?_⟩
      cases e : W.far k.1 k.2 with
      | none => exact ⟨_, rfl, qt (by rw [e]; rfl) _ _ (.refl _) ⟨r, rfl, hr3⟩⟩
      | some v => exact qf (by rw [e]; rfl) _ (.refl _)
    · intro ys H3 s3 hD hP
      rw [List.map_id] at hP
      have hm : k0 ∈ (pairs W.hs).filter fun k => decide (W.far k.1 k.2 = none) := List.mem_filter.mpr ⟨hk0, decide_eq_true hn0⟩
      have hall : ∀ k ∈ (pairs W.hs).filter (fun k => decide (W.far k.1 k.2 = none)), k ∈ pairs W.hs ∧ W.far k.1 k.2 = none := fun k hk => ⟨(List.mem_filter.mp hk).1, of_decide_eq_true (List.mem_filter.mp hk).2⟩
      generalize (pairs W.hs).filter (fun k => decide (W.far k.1 k.2 = none)) = fl at hP hm hall
      cases hP with
      | nil => cases hm
      | cons h t =>
        obtain ⟨r, rfl, hr⟩ := h
        obtain ⟨k1, k2⟩ := hall _ List.mem_cons_self
        exact ⟨D, _, 0, _, rfl, rfl, .of hD, atI_nat (j := 0) rfl, q r H3 _ ((s1.trans s2).trans s3) hr k1 k2⟩
/-! ### the best correction -/
def cor0 (W : Wd) (b : Int × Int) (h : Nat) : Int := if h = W.hs.headD 0 then 0 else (W.far (W.hs.headD 0) h).getD 0 * b.2 - b.1
def corStep (W : Wd) (b : Int × Int) (c : Nat → Int) (p : Nat × Nat) : Nat → Int := fun h => if h = p.2 then max (c p.2) (c p.1 + (W.far p.1 p.2).getD 0 * b.2 - b.1) else c h
def corF (W : Wd) (b : Int × Int) : Nat → Int := W.hs.foldl (fun c _ => (pairs W.hs).foldl (corStep W b) c) (cor0 W b)
def spCor (K : PySem.W.Frag) : Sp := fun vs H Q _ => ∃ (x : Addr) (W : Wd), vs = [.ref x] ∧ LogAt K H x W ∧ WdOk W ∧ (∀ H', Same H H' → (∃ k ∈ pairs W.hs, W.far k.1 k.2 = none) → Q .non H') ∧
  ∀ p H' z, Same H H' → H p = none → IsBd W z → RdK H' p W.hs (frT (corF W z) z.2) → Q (.ref p) H'
theorem max_eq (a b : Int) : (if b > a then b else a) = max a b := by
  rw [Int.max_def]
  split <;> split <;> omega
theorem isBd_pos {W : Wd} {z : Int × Int} (h5 : W.hs.length ≤ 5) (h : IsBd W z) : 0 < z.2 ∧ z.2.natAbs < 2 ^ 8 := by
  obtain ⟨ha, r, v, e1, hm, e2, rfl⟩ := h
  obtain ⟨r2, r6, _⟩ := ring_row hm
  have hp : (0 : Int) < (r.length : Int) := by omega
  have p := low_pos (a := v) hp
  refine ⟨p, ?_⟩
  obtain ⟨g, hg, _, e, _⟩ := low_parts (a := v) hp
  have : (lowF v r.length).2 ≤ g * (lowF v r.length).2 := by
    have := Int.mul_le_mul_of_nonneg_right (show (1 : Int) ≤ g by omega) (show (0 : Int) ≤ (lowF v r.length).2 by omega)
    omega
  have h8 : (2 : Nat) ^ 8 = 256 := by decide
  omega
theorem put_cor {hs : List Nat} {c : Nat → Int} {k : Nat} {y : Int} : (dh hs fun x => if x = k then (V.int y) else V.int (c x)) = dh hs fun x => V.int (if x = k then y else c x) := by
  apply List.map_congr_left
  intro x _
  show (hk1 x, if x = k then V.int y else V.int (c x)) = (hk1 x, V.int (if x = k then y else c x))
  split <;> rfl
theorem ok_cor (T : Txt K mg) : CallOk P w K mg base CX0 4 "corrected" ["log"] [] (spCor K) := by
  have C_best_bound : CallOk P w K mg base CX0 3 "best_bound" ["log"] [] (spBB K) := ok_bb T
  have C_all_pairs : CallOk P w K mg base CX0 1 "all_pairs" ["hands"] [] spAP := ok_ap T
  have C_lowest : CallOk P w K mg base CX0 1 "lowest" ["top", "bottom"] [] spLowest := ok_lowest T
  have M_hands : MethOk P w K mg base CX0 1 (aLog K) "hands" ["self"] (spHands K) := m_hands T
  refine def_ok (st := s_corrected) T 34 28 rfl rfl sc_corrected (fun _ _ _ _ _ _ us hl => match us, hl with | [_], _ => rfl) (fun vs H Q E h => ?_) (fun cdv f A outer s H vs Q E hr h => ?_)
  · obtain ⟨x, W, rfl, _⟩ := h
    rfl
  · obtain ⟨x, W, rfl, hx, ok, q0, q⟩ := h
    refine ⟨_, PSs.nox (pss_cons (ps_asg (pe_tup (pa_cons (pe_callT C_best_bound (hr.mono (by decide)) (by rfl) pass0 (pa_cons (pv 0) pa_nil)) (pa_cons (pe_meth0T M_hands (logCls T) (hr.mono (by decide)) pass0 (pv 0)) pa_nil))) (pg_tupK (K := K) rfl rfl (pgs_cons (pg_name (i := 1) sc_corrected.nd rfl (.inr rfl)) (pgs_cons (pg_name (i := 2) sc_corrected.nd rfl (.inr rfl)) pgs_nil))))
      (pss_cons (ps_if (pt_cmpR op_isN (pv 1) (pe_non) (nomark _)) (pss_one (ps_ret (pe_non))) pss_nil)
      (pss_cons (ps_set (i := 3) sc_corrected.nd rfl (.inr rfl) (pe_dcA (.dK []) (.inl rfl) (hu_of hr) (own := [("hand", 7)]) (by rfl) sc_corrected.nd (pi_listK (K := K) rfl (pv 2)) (blkOk_by (own := [("hand", 7)]) (N := ["log", "bound", "hands", "found", "_", "one", "other", "hand"]) (sc := defScope (topS 44)) (by decide +kernel)) (fun _ _ _ _ _ => (pg_name (i := 7) sc_corrected.nd rfl (.inl rfl))) (fun _ _ _ _ _ => pts_nil) (fun _ _ _ _ _ => (pv 7)) (fun _ _ _ _ _ => (pe_ifExp (pt_cmpR op_eq (pv 7) (pe_ix (ix_listK (K := K) rfl) (pv 2) (pe_int) (fun _ _ => rfl)) (nomark _)) (pe_int) (pe_op op_sub (pe_op op_mulW (pe_dget (hu_of hr) (pe_fldK (K := K) rfl (pv 0) rfl) (pe_tup (pa_cons (pe_ix (ix_listK (K := K) rfl) (pv 2) (pe_int) (fun _ _ => rfl)) (pa_cons (pv 7) pa_nil))) (fun _ _ => rfl)) (pe_ix (ix_tupK (K := K) rfl) (pv 1) (pe_int) (fun _ _ => rfl))) (pe_ix (ix_tupK (K := K) rfl) (pv 1) (pe_int) (fun _ _ => rfl)))))))
      (pss_cons (ps_for PassesOwn.never rfl (pi_listK (K := K) rfl (pv 2)) (pg_name (i := 4) sc_corrected.nd rfl (.inl rfl))
      (pss_one (ps_for PassesOwn.never rfl (pi_listK (K := K) rfl (pe_callT C_all_pairs (hr.mono (by decide)) (by rfl) pass0 (pa_cons (pv 2) pa_nil))) (pg_tupK (K := K) rfl rfl (pgs_cons (pg_name (i := 5) sc_corrected.nd rfl (.inl rfl)) (pgs_cons (pg_name (i := 6) sc_corrected.nd rfl (.inl rfl)) pgs_nil)))
      (pss_one (ps_dput (hu_of hr) (pv 3) (pv 6) (pe_callB (id := "max") (call_max2 rfl) (by rfl) T.f_max (by decide +kernel) (pa_cons (pe_dget (hu_of hr) (pv 3) (pv 6) (fun _ _ => rfl)) (pa_cons (pe_op op_sub (pe_op op_add (pe_dget (hu_of hr) (pv 3) (pv 5) (fun _ _ => rfl)) (pe_op op_mulW (pe_dget (hu_of hr) (pe_fldK (K := K) rfl (pv 0) rfl) (pe_tup (pa_cons (pv 5) (pa_cons (pv 6) pa_nil))) (fun _ _ => rfl)) (pe_ix (ix_tupK (K := K) rfl) (pv 1) (pe_int) (fun _ _ => rfl)))) (pe_ix (ix_tupK (K := K) rfl) (pv 1) (pe_int) (fun _ _ => rfl))) pa_nil))) rfl)))))
      (pss_one (ps_ret (pe_dcA (.dK []) (.inl rfl) (hu_of hr) (own := [("hand", 7)]) (by rfl) sc_corrected.nd (pi_listK (K := K) rfl (pv 2)) (blkOk_by (own := [("hand", 7)]) (N := ["log", "bound", "hands", "found", "_", "one", "other", "hand"]) (sc := defScope (topS 44)) (by decide +kernel)) (fun _ _ _ _ _ => (pg_name (i := 7) sc_corrected.nd rfl (.inl rfl))) (fun _ _ _ _ _ => pts_nil) (fun _ _ _ _ _ => (pv 7)) (fun _ _ _ _ _ => (pe_callT C_lowest (hr.mono (by decide)) (by rfl) pass0 (pa_cons (pe_dget (hu_of hr) (pv 3) (pv 7) (fun _ _ => rfl)) (pa_cons (pe_ix (ix_tupK (K := K) rfl) (pv 1) (pe_int) (fun _ _ => rfl)) pa_nil))))))))))), ?_⟩
    obtain ⟨dx0, fs0, m0, mh, _, _⟩ := hx.m
    refine ⟨_, rfl, x, W, rfl, hx, ok, fun H1 s1 hb => ?_, fun b H1 z s1 n1 hb hz => ?_⟩
    · have hx1 := hx.same s1
      refine ⟨_, rfl, x, dx0, fs0, rfl, s1 _ _ m0, mh, x, W, rfl, hx1, fun l H2 s2 n2 hl => ?_⟩
      refine ⟨by show 2 ≤ sizeLine; decide, fun t nt => ⟨t, _, rfl, .of upd_same, rfl, _, _, rfl, _, _, rfl, rfl, _, rfl, rfl, _, rfl, ?_⟩⟩
      exact q0 _ ((s1.trans s2).trans (same_new nt)) hb
    obtain ⟨zp, z8⟩ := isBd_pos ok.h5 hz
    obtain ⟨ha, hz'⟩ := id hz
    have hx1 := hx.same s1
    refine ⟨_, rfl, x, dx0, fs0, rfl, s1 _ _ m0, mh, x, W, rfl, hx1, fun l H2 s2 n2 hl => ?_⟩
    refine ⟨by show 2 ≤ sizeLine; decide, fun t nt => ⟨t, _, rfl, .of upd_same, rfl, _, _, rfl, _, _, rfl, rfl, _, rfl, rfl, _, rfl, ?_⟩⟩
    have st := same_new (o := .tup [.ref b, .ref l]) nt
    have hx3 := (hx1.same s2).same st
    have hb3 := st _ _ (s2 _ _ hb)
    have hl3 := st _ _ hl
    have sH3 := (s1.trans s2).trans st
    generalize upd H2 t (.tup [.ref b, .ref l]) = H3 at st hx3 hb3 hl3 sH3 ⊢
    have h0m : W.hs.headD 0 ∈ W.hs := by
      have := ok.h2
      cases e : W.hs with
      | nil => rw [e] at this; simp at this
      | cons a r => exact List.mem_cons_self
    have hd0 : (W.hs.map hv)[0]? = some (hv (W.hs.headD 0)) := by
      have := ok.h2
      cases e : W.hs with
      | nil => rw [e] at this; simp at this
      | cons a r => rfl
    refine ⟨_, rfl, l, rfl, ⟨_, .of hl3⟩, fun F nF => ?_⟩
    refine dcw (hs := W.hs) (fun _ v h => v = .int (cor0 W z h)) (wk_hands (.of hl3)) ok.nd (by have := ok.h5; omega) (fun _ _ _ _ _ h => h) ?_ nF ?_
    · intro h hh H4 Nx s4 go
      refine ⟨rfl, _, rfl, _, rfl, _, rfl, l, _, 0, _, rfl, rfl, .of (s4 _ _ hl3), atI_nat (j := 0) hd0, rfl, _, rfl, ?_⟩
      have e : decide (hv h = hv (W.hs.headD 0)) = decide (h = W.hs.headD 0) := hv_dec _ _
      rw [e]
      by_cases c : h = W.hs.headD 0
      · rw [decide_eq_true c]
        exact go _ _ (.refl _) (by unfold cor0; rw [if_pos c])
      · rw [decide_eq_false c]
        obtain ⟨v, hv1⟩ := ha (W.hs.headD 0, h) (mem_pairs.mpr ⟨h0m, hh, fun z => c z.symm⟩)
        obtain ⟨dx, fs, a5, h0, h5, hf⟩ := (hx3.same s4).far
        refine ⟨_, rfl, x, _, dx, fs, _, rfl, h0, logCls T, no_far T, h5, _, rfl, l, _, 0, _, rfl, rfl, .of (s4 _ _ hl3), atI_nat (j := 0) hd0, _, rfl, by show 2 ≤ sizeLine; decide, fun q1 nq => ?_⟩
        have sq := same_new (o := .tup [hv (W.hs.headD 0), hv h]) nq
        refine ⟨a5, _, rfl, (hf.same sq).get h0m hh upd_same, _, rfl, b, [.int z.1, .int z.2], 1, _, rfl, rfl, .of (sq _ _ (s4 _ _ hb3)), rfl, ?_⟩
        refine ⟨v, z.2, by rw [hv1]; rfl, rfl, wide_mul (ok.fz _ _ _ h0m hh hv1) z8 (by decide) (by decide) (by decide), _, rfl, b, [.int z.1, .int z.2], 0, _, rfl, rfl, .of (sq _ _ (s4 _ _ hb3)), rfl, ?_⟩
        refine ⟨_, _, rfl, rfl, go _ _ sq ?_⟩
        unfold cor0
        rw [if_neg c, hv1]
        rfl
    · intro v H4 s4 hF hv4
      have ev : dh W.hs v = dh W.hs fun h => .int (cor0 W z h) := List.map_congr_left fun h hh => by rw [hv4 h hh]
      rw [ev] at hF
      have hl4 := s4 _ _ hl3
      have hx4 := hx3.same s4
      have hb4 := s4 _ _ hb3
      have lF : l ≠ F := ne_of hl4 hF fun z => by cases z
      have bF : b ≠ F := ne_of hb4 hF fun z => by cases z
      refine ⟨_, rfl, l, rfl, ⟨_, .of hl4⟩, ?_⟩
      refine for_list (xs := W.hs.map hv) (fun i σ H' => (∃ x4 x5 x6 x7, σ = [some (.ref x), some (.ref b), some (.ref l), some (.ref F), x4, x5, x6, x7]) ∧ SameB F H4 H' ∧ H' F = some (.dK (dh W.hs fun h => .int ((W.hs.take i).foldl (fun c _ => (pairs W.hs).foldl (corStep W z) c) (cor0 W z) h))))
        ⟨⟨_, _, _, _, rfl⟩, .refl, hF⟩ (fun i σ H' _ h => .of (h.2.1 _ _ lF hl4)) ?_ ?_
      · rintro i y σ H5 hy ⟨⟨x4, x5, x6, x7, rfl⟩, s5, hF5⟩
        rw [List.getElem?_map] at hy
        obtain ⟨h, hu, rfl⟩ := Option.map_eq_some_iff.mp hy
        rw [foldl_take_succ hu]
        generalize (W.hs.take i).foldl (fun c _ => (pairs W.hs).foldl (corStep W z) c) (cor0 W z) = ci at hF5 ⊢
        refine ⟨_, rfl, l, W.hs, rfl, s5 _ _ lF hl4, by have := ok.h5; omega, fun p6 H6 s6 n6 hp6 => ?_⟩
        obtain ⟨xp, hp6l, hp6p⟩ := hp6
        refine ⟨p6, rfl, ⟨_, .of hp6l⟩, ?_⟩
        have hF6 := s6 _ _ hF5
        have pF : p6 ≠ F := ne_of hp6l hF6 fun z => by cases z
        refine for_list (xs := xp) (fun j σ H' => (∃ x5 x6 x7, σ = [some (.ref x), some (.ref b), some (.ref l), some (.ref F), some (hv h), x5, x6, x7]) ∧ SameB F H6 H' ∧ H' F = some (.dK (dh W.hs fun h => .int (((pairs W.hs).take j).foldl (corStep W z) ci h))))
          ⟨⟨_, _, _, rfl⟩, .refl, hF6⟩ (fun i σ H' _ h => .of (h.2.1 _ _ pF hp6l)) ?_ ?_
        · rintro j y σ H7 hy ⟨⟨x5, x6, x7, rfl⟩, s7, hF7⟩
          obtain ⟨k, hk, r, rfl, hr6⟩ := pr_getL hp6p hy
          obtain ⟨ki, kj, kn⟩ := mem_pairs.mp (mem_of j hk)
          rw [foldl_take_succ hk]
          generalize ((pairs W.hs).take j).foldl (corStep W z) ci = cj at hF7 ⊢
          have rF : r ≠ F := ne_of hr6 hF6 fun z => by cases z
          have hr7 := s7 _ _ rF hr6
          have sx : SameB F H4 H7 := (s5.trans (sameB_of s6)).trans s7
          obtain ⟨v, hv1⟩ := ha k (mem_of j hk)
          refine ⟨r, _, rfl, .of hr7, rfl, _, _, rfl, _, _, rfl, rfl, ?_⟩
          refine ⟨_, rfl, _, rfl, F, _, rfl, get_dh (.of hF7) kj, _, rfl, _, rfl, F, _, rfl, get_dh (.of hF7) ki, ?_⟩
          -- the log's table from behind the writes on F
          obtain ⟨dx, fs, a5, h0, h5, kv, hkv, tkv⟩ := hx4.far
          have xF : x ≠ F := ne_of h0 hF fun z => by cases z
          have a5F : a5 ≠ F := ne_of hkv hF fun z => by cases z
          refine ⟨_, rfl, x, _, dx, fs, _, rfl, sx _ _ xF h0, logCls T, no_far T, h5, _, rfl, _, rfl, by show 2 ≤ sizeLine; decide, fun q1 nq => ?_⟩
          have sq := same_new (o := .tup [hv k.1, hv k.2]) nq
          have hfar : FarAt W.hs (upd H7 q1 (.tup [hv k.1, hv k.2])) a5 W.far := ⟨kv, sq _ _ (sx _ _ a5F hkv), tkv⟩
          have hb7 : FrAt (upd H7 q1 (.tup [hv k.1, hv k.2])) b z := sq _ _ (sx _ _ bF hb4)
          refine ⟨a5, _, rfl, hfar.get ki kj upd_same, _, rfl, b, [.int z.1, .int z.2], 1, _, rfl, rfl, .of hb7, rfl, ?_⟩
          refine ⟨v, z.2, by rw [hv1]; rfl, rfl, wide_mul (ok.fz _ _ _ ki kj hv1) z8 (by decide) (by decide) (by decide), _, _, rfl, rfl, _, rfl, b, [.int z.1, .int z.2], 0, _, rfl, rfl, .of hb7, rfl, ?_⟩
          refine ⟨_, _, rfl, rfl, _, _, rfl, ?_⟩
          rw [max_eq]
          refine ⟨_, rfl, _, rfl, F, _, rfl, put_dk _ (sq _ _ hF7) kj (by have := ok.h5; omega), ⟨_, _, _, rfl⟩, (s7.trans (sameB_of sq)).trans sameB_upd, ?_⟩
          rw [upd_same, put_cor]
          unfold corStep
          rw [hv1]
          rfl
        · rintro σ H7 ⟨⟨x5, x6, x7, rfl⟩, s7, hF7⟩
          rw [hp6p.length, List.take_length] at hF7
          exact ⟨⟨_, _, _, _, rfl⟩, (s5.trans (sameB_of s6)).trans s7, hF7⟩
      · rintro σ H5 ⟨⟨x4, x5, x6, x7, rfl⟩, s5, hF5⟩
        rw [List.length_map, List.take_length] at hF5
        have hl5 := s5 _ _ lF hl4
        have hb5 := s5 _ _ bF hb4
        refine ⟨_, rfl, l, rfl, ⟨_, .of hl5⟩, fun D nD => ?_⟩
        refine dcw (hs := W.hs) (fun H v h => ∃ b, v = .ref b ∧ FrAt H b (lowF (corF W z h) z.2)) (wk_hands (.of hl5)) ok.nd (by have := ok.h5; omega) (fun _ _ _ _ k ⟨b, e, h⟩ => ⟨b, e, k _ _ h⟩) ?_ nD ?_
        · intro h hh H6 Nx s6 go
          refine ⟨rfl, _, rfl, _, rfl, _, rfl, F, _, rfl, get_dh (.of (s6 _ _ hF5)) hh, _, rfl, b, [.int z.1, .int z.2], 1, _, rfl, rfl, .of (s6 _ _ hb5), rfl, ⟨_, _, rfl, zp, pw z8, fun c H7 s7 n7 hc => go _ _ s7 ⟨c, rfl, hc⟩⟩⟩
        · intro u H6 s6 hD hu
          have nFH : H F = none := sH3.free nF
          have sA : Same H3 H6 := fun c o hc => s6 _ _ (s5 _ _ (ne_of_none hc nF) (s4 _ _ hc))
          have DF : D ≠ F := (ne_of_none hF5 nD).symm
          have nD3 : H3 D = none := by
            cases e : H3 D with
            | none => rfl
            | some o => rw [s5 _ _ DF (s4 _ _ e)] at nD; cases nD
          exact q D H6 z (sH3.trans sA) (sH3.free nD3) hz ⟨u, hD, hu⟩
end
end K80

set_option maxHeartbeats 4000000
/-! the two errors; readings checked -/
namespace K80
open PySem PySem.Spec L2
open PyProof.Rows hiding St
abbrev s_BadFar_init : Stmt := (inClass (topS 3) 0)
theorem sc_BadFar_init : FnScope ["self", "thing"] ["self", "thing"] (defScope s_BadFar_init) := ⟨rfl, rfl, rfl, by decide +kernel, rfl, by decide +kernel, by decide +kernel⟩
abbrev s_BadReading_init : Stmt := (inClass (topS 6) 0)
theorem sc_BadReading_init : FnScope ["self", "thing"] ["self", "thing"] (defScope s_BadReading_init) := ⟨rfl, rfl, rfl, by decide +kernel, rfl, by decide +kernel, by decide +kernel⟩
abbrev s_checked_reading : Stmt := (topS 24)
theorem sc_checked_reading : FnScope ["thing", "hands", "found"] ["thing", "hands"] (defScope s_checked_reading) := ⟨rfl, rfl, rfl, by decide +kernel, rfl, by decide +kernel, by decide +kernel⟩
section
variable {P : Program} {w : World} {K : PySem.W.Frag} {mg : Str → Option Value} {base : Heap}
theorem oexB_ok {C : Addr} (h : oexB K C = true) : OexC K C ∧ XfC K C ∧ PySem.W.findIn K (.ref C) "__init__" = some (some (.ref (He.ma K C "__init__"))) ∧ PySem.W.typeIn K (.ref (He.ma K C "__init__")) = some (.type "function") := by
  unfold oexB at h
  obtain ⟨h1, h⟩ := Bool.and_eq_true_iff.mp h
  obtain ⟨h2, h⟩ := Bool.and_eq_true_iff.mp h
  obtain ⟨h3, h⟩ := Bool.and_eq_true_iff.mp h
  obtain ⟨h4, h⟩ := Bool.and_eq_true_iff.mp h
  obtain ⟨h5, h⟩ := Bool.and_eq_true_iff.mp h
  obtain ⟨h6, h⟩ := Bool.and_eq_true_iff.mp h
  obtain ⟨h7, h⟩ := Bool.and_eq_true_iff.mp h
  obtain ⟨h8, h⟩ := Bool.and_eq_true_iff.mp h
  obtain ⟨h9, h10⟩ := Bool.and_eq_true_iff.mp h
  refine ⟨⟨?_, of_decide_eq_true h2, of_decide_eq_true h3, of_decide_eq_true h4, h5⟩, ⟨of_decide_eq_true h8, of_decide_eq_true h9, of_decide_eq_true h3, h10⟩, of_decide_eq_true h6, of_decide_eq_true h7⟩
  split at h1
  · rename_i dd cd sl ho
    split at h1
    · rename_i C' bm k0 k1 k2 k3 n k5 hm hs
      simp only [Bool.and_eq_true, beq_iff_eq, Bool.not_eq_true'] at h1
      obtain ⟨⟨⟨⟨rfl, rfl⟩, hdel⟩, ht⟩, hdct⟩ := h1
      obtain ⟨nm1, bs, mro, ns, qn, hd, sn, sub, ab, col, del⟩ := cd
      dsimp only at hm hdel hdct
      subst hm hdel hdct
      have hsl : sl = #[k0, k1, k2, k3, some (.builtin "ValueError.__new__"), k5] := by
        obtain ⟨l⟩ := sl
        simp only at hs
        rw [hs]
      subst hsl
      exact ⟨nm1, qn, ns, bs, bm, sn, sub, ab, col, dd, k0, k1, k2, k3, k5, ho, ht⟩
    · cases h1
  · cases h1
theorem txt_errs (T : Txt K mg) : oexB K (He.ga K "BadFar") = true ∧ oexB K (He.ga K "BadReading") = true ∧ PySem.W.exmOne K (.type "ZeroDivisionError") (.ref (He.ga K "BadFar")) = some false ∧ PySem.W.exmOne K (.type "ZeroDivisionError") (.ref (He.ga K "BadReading")) = some false := by
  have h := T.more
  unfold exX at h
  obtain ⟨h1, h⟩ := Bool.and_eq_true_iff.mp h
  obtain ⟨h2, h⟩ := Bool.and_eq_true_iff.mp h
  obtain ⟨h3, h⟩ := Bool.and_eq_true_iff.mp h
  obtain ⟨h4, h5⟩ := Bool.and_eq_true_iff.mp h
  exact ⟨h2, h3, of_decide_eq_true h4, of_decide_eq_true h5⟩
/-- an error's __init__ -/
def spErrI (K : PySem.W.Frag) (C : Addr) : Sp := fun vs H Q _ => ∃ (a : Addr) (v : V), vs = [.ref a, v] ∧ H a = some (exo a C none) ∧ ∀ dx, H dx = none → dx ≠ a → Q .non (upd (upd H dx (exd dx [("thing", v)])) a (exo a C (some dx)))
structure ErrOk (P : Program) (w : World) (K : PySem.W.Frag) (mg : Str → Option Value) (base : Heap) (c : Str) : Prop where
  ox : OexC K (He.ga K c)
  xf : XfC K (He.ga K c)
  nt : PySem.W.findIn K (.ref (He.ga K c)) "thing" = some none
  ini : PySem.W.findIn K (.ref (He.ga K c)) "__init__" = some (some (.ref (He.ma K (He.ga K c) "__init__")))
  tyi : PySem.W.typeIn K (.ref (He.ma K (He.ga K c) "__init__")) = some (.type "function")
  glo : mg c = some (.ref (He.ga K c))
  fn : ∃ fd, FnOk P w K mg base CX0 (0 + 1) (He.ma K (He.ga K c) "__init__") fd ["self", "thing"] (spErrI K (He.ga K c)) ∧ Binds K fd ["self", "thing"] []
theorem errFar (T : Txt K mg) : ErrOk P w K mg base "BadFar" := by
  obtain ⟨h1, _⟩ := txt_errs T
  obtain ⟨o, xf, i, t⟩ := oexB_ok h1
  have nt : PySem.W.findIn K (.ref (He.ga K "BadFar")) "thing" = some none := He.noat_ok (T.says.fact 97 rfl)
  refine ⟨o, xf, nt, i, t, T.glo "BadFar" (mem_of 62 rfl), ?_⟩
  refine fn_okM (st := s_BadFar_init) T 0 rfl sc_BadFar_init (fun _ _ _ _ _ _ us hl => match us, hl with | [_, _], _ => rfl) (fun vs H Q E h => ?_) (fun cdv A outer s H vs Q E hr h => ?_)
  · obtain ⟨a, v, rfl, _⟩ := h
    rfl
  · obtain ⟨a, v, rfl, ha, q⟩ := h
    exact ⟨_, PSs.nox (pss_one (ps_ost (pv 0) (pv 1))), _, rfl, _, rfl, a, _, rfl, o, nt, .inl ⟨ha, q⟩⟩
theorem errReading (T : Txt K mg) : ErrOk P w K mg base "BadReading" := by
  obtain ⟨_, h1, _⟩ := txt_errs T
  obtain ⟨o, xf, i, t⟩ := oexB_ok h1
  have nt : PySem.W.findIn K (.ref (He.ga K "BadReading")) "thing" = some none := He.noat_ok (T.says.fact 98 rfl)
  refine ⟨o, xf, nt, i, t, T.glo "BadReading" (mem_of 63 rfl), ?_⟩
  refine fn_okM (st := s_BadReading_init) T 1 rfl sc_BadReading_init (fun _ _ _ _ _ _ us hl => match us, hl with | [_, _], _ => rfl) (fun vs H Q E h => ?_) (fun cdv A outer s H vs Q E hr h => ?_)
  · obtain ⟨a, v, rfl, _⟩ := h
    rfl
  · obtain ⟨a, v, rfl, ha, q⟩ := h
    exact ⟨_, PSs.nox (pss_one (ps_ost (pv 0) (pv 1))), _, rfl, _, rfl, a, _, rfl, o, nt, .inl ⟨ha, q⟩⟩
theorem pmk_errT {X : Cx} {c : Str} {p pos : Pos} {e : Expr} {ta : TA} (R : ErrOk X.prog X.w X.K X.mg X.base c) (hr : Room 2 X.A) (hg : Gl X c) (ha : PA X [e] ta)
    (hdb : (c == ("__debug__" : Str)) = false := by decide) (he : starEach [e] X.env = (false, eval e X.env) :: starEach [] X.env := by rfl) : PMk X (.Call (.Name c p) [e] [] pos) (tMkO (He.ga X.K c) (spErrI X.K (He.ga X.K c)) [] ta) := by
  obtain ⟨fd, F, hb⟩ := R.fn
  exact pmk_oex R.ox R.ini R.tyi F hr hb .nil pass0 hg R.glo ha hdb he rfl
/-- what a raised error leaves -/
def Thrown (H : Hp) (v : V) (d : Option Addr) (H' : Hp) : Prop := Same H H' ∧ ∃ dd, d = some dd ∧ H' dd = some (.xd [("thing", v)])
theorem err_read {C : Addr} {v : V} {H : Hp} {Q : XK} (k : ∀ d H', Thrown H v d H' → Q (.ref C) d H') : [v].length ≤ 1000 ∧ ∀ a, H a = none → spErrI K C (.ref a :: ([v] ++ [])) (upd H a (exo a C none))
    (fun z H2 => z = .non ∧ ∃ (d : Addr) (fs : List (Str × V)), H2 a = some (exo a C (some d)) ∧ H2 d = some (exd d fs) ∧ H d = none ∧ Q (.ref C) (some d) (upd (del H2 a) d (.xd fs))) (fun _ _ _ => False) := by
  refine ⟨by show 1 ≤ 1000; decide, fun a na => ⟨a, v, rfl, upd_same, fun dx nd ne => ⟨rfl, dx, _, upd_same, ?_, ?_, k _ _ ⟨fun b o hb => ?_, dx, rfl, upd_same⟩⟩⟩⟩
  · rw [upd_ne ne, upd_same]
  · rw [upd_ne ne] at nd
    exact nd
  · have hba : b ≠ a := ne_of_none hb na
    have hbd : b ≠ dx := by
      rw [upd_ne ne] at nd
      exact ne_of_none hb nd
    rw [upd_ne hbd, del_ne hba, upd_ne hba, upd_ne hbd, upd_ne hba]
    exact hb
def spCR (K : PySem.W.Frag) : Sp := fun vs H Q E => ∃ (x : V) (l : Addr) (hs : List Nat), vs = [x, .ref l] ∧ H l = some (.lst (hs.map hv)) ∧ hs.Nodup ∧ 0 < hs.length ∧ hs.length ≤ 6 ∧
  ((∃ (a : Addr) (fr : Nat → Int × Int), x = .ref a ∧ RdK H a hs fr ∧ (∀ h ∈ hs, Sz 2000 (fr h)) ∧ ∀ p H', Same H H' → H p = none → RdK H' p hs (fun h => lowF (fr h).1 (fr h).2) → Q (.ref p) H') ∨
   ((∀ d H', Thrown H x d H' → E (.ref (He.ga K "BadReading")) d H') ∧ ((∃ t, Tyb K H x t ∧ t ≠ "dict") ∨ (∃ a, x = .ref a ∧ H a = some (.dK [])) ∨ ∃ a, x = .ref a ∧ H a = some (.dK (dh hs fun _ => .int 1)))))
theorem ok_cr (T : Txt K mg) : CallOk P w K mg base (L2.CX P w) 4 "checked_reading" ["thing", "hands"] [] (spCR K) := by
  have C_kept_reading : CallOk P w K mg base CX0 3 "kept_reading" ["thing", "hands"] [] (spKeptReading K) := ok_kept_reading T
  have R_BadReading : ErrOk P w K mg base "BadReading" := errReading T
  refine def_ok (st := s_checked_reading) T 12 10 rfl rfl sc_checked_reading (fun _ _ _ _ _ _ us hl => match us, hl with | [_, _], _ => rfl) (fun vs H Q E h => ?_) (fun cdv f A outer s H vs Q E hr h => ?_)
  · obtain ⟨x, l, hs, rfl, _⟩ := h
    rfl
  · obtain ⟨x, l, hs, rfl, hl, hd, h0, h6, h⟩ := h
    refine ⟨_, (pss_cons (ps_set (i := 2) sc_checked_reading.nd rfl (.inl rfl) (pe_callT C_kept_reading (hr.mono (by decide)) (by rfl) pass0 (pa_cons (pv 0) (pa_cons (pv 1) pa_nil))))
      (pss_cons (ps_if (pt_cmpR op_isN (pv 2) (pe_non) (nomark _)) (pss_one (ps_raise rfl (takes_of rfl rfl rfl rfl) (pmk_errT R_BadReading (hr.mono (by decide)) (by rfl) (pa_cons (pv 0) pa_nil)))) pss_nil)
      (pss_one (ps_ret (pv 2))))), ?_⟩
    refine ⟨_, rfl, _, rfl, x, l, hs, rfl, hl, hd, h0, h6, ?_⟩
    rcases h with ⟨a, fr, rfl, hr1, hz, q⟩ | ⟨q, h⟩
    · exact .inl ⟨a, fr, rfl, hr1, hz, fun p H1 s1 n1 hp => ⟨_, rfl, rfl, _, rfl, _, rfl, q p H1 s1 n1 hp⟩⟩
    · refine .inr ⟨fun H1 s1 => ⟨_, rfl, rfl, _, rfl, _, rfl, err_read fun d H' ⟨s2, t⟩ => q d H' ⟨s1.trans s2, t⟩⟩, h⟩
end
end K80

set_option maxHeartbeats 4000000
/-! how far apart; what is told of a log -/
namespace K80
open PySem PySem.Spec L2
open PyProof.Rows hiding St
abbrev s_checked_pair : Stmt := (topS 34)
theorem sc_checked_pair : FnScope ["log", "one", "other", "hand"] ["log", "one", "other"] (defScope s_checked_pair) := ⟨rfl, rfl, rfl, by decide +kernel, rfl, by decide +kernel, by decide +kernel⟩
abbrev s_apart : Stmt := (topS 35)
theorem sc_apart : FnScope ["log", "offsets", "correction", "one", "other", "shown", "taken", "far"] ["log", "offsets", "correction", "one", "other"] (defScope s_apart) := ⟨rfl, rfl, rfl, by decide +kernel, rfl, by decide +kernel, by decide +kernel⟩
abbrev s_told_log : Stmt := (topS 45)
theorem sc_told_log : FnScope ["log", "roads", "rows", "road", "bound"] ["log"] (defScope s_told_log) := ⟨rfl, rfl, rfl, by decide +kernel, rfl, by decide +kernel, by decide +kernel⟩
section
variable {P : Program} {w : World} {K : PySem.W.Frag} {mg : Str → Option Value} {base : Heap}
def spCP (K : PySem.W.Frag) : Sp := fun vs H Q _ => ∃ (x : Addr) (W : Wd) (i j : Nat), vs = [.ref x, hv i, hv j] ∧ LogAt K H x W ∧ i ∈ W.hs ∧ j ∈ W.hs ∧ i ≠ j ∧ (∀ h ∈ W.hs, h < 6) ∧ ∀ p H', Same H H' → Q (.ref p) H'
theorem ok_cp (T : Txt K mg) : CallOk P w K mg base CX0 3 "checked_pair" ["log", "one", "other"] [] (spCP K) := by
  have M_hands : MethOk P w K mg base CX0 1 (aLog K) "hands" ["self"] (spHands K) := m_hands T
  have C_is_hand_of : CallOk P w K mg base CX0 2 "is_hand_of" ["thing", "hands"] [] spIsHandOf := ok_is_hand_of T
  refine def_ok (st := s_checked_pair) T 25 19 rfl rfl sc_checked_pair (fun _ _ _ _ _ _ us hl => match us, hl with | [_, _, _], _ => rfl) (fun vs H Q E h => ?_) (fun cdv f A outer s H vs Q E hr h => ?_)
  · obtain ⟨x, W, i, j, rfl, _⟩ := h
    rfl
  · obtain ⟨x, W, i, j, rfl, hx, hi, hj, ne, h6, q⟩ := h
    refine ⟨_, PSs.nox (pss_cons (ps_for PassesOwn.never rfl (pi_tupK (K := K) rfl (pe_tup (pa_cons (pv 1) (pa_cons (pv 2) pa_nil)))) (pg_name (i := 3) sc_checked_pair.nd rfl (.inl rfl))
      (pss_one (ps_if (pt_not (pt_val (pe_callT C_is_hand_of (hr.mono (by decide)) (by rfl) pass0 (pa_cons (pv 3) (pa_cons (pe_meth0T M_hands (logCls T) (hr.mono (by decide)) pass0 (pv 0)) pa_nil))))) (pss_one (ps_never)) pss_nil)))
      (pss_cons (ps_if (pt_cmpR op_eq (pv 1) (pv 2) (nomark _)) (pss_one (ps_never)) pss_nil)
      (pss_one (ps_ret (pe_tup (pa_cons (pv 1) (pa_cons (pv 2) pa_nil))))))), ?_⟩
    obtain ⟨dx0, fs0, m0, mh, _, _⟩ := hx.m
    refine ⟨_, rfl, _, rfl, by show 2 ≤ sizeLine; decide, fun t nt => ⟨t, rfl, ⟨_, .of upd_same⟩, ?_⟩⟩
    have st := same_new (o := .tup [hv i, hv j]) nt
    refine for_wk (Hb := upd H t (.tup [hv i, hv j])) (wk_tup (us := [i, j]) (A := fun _ v u => v = hv u) (.of upd_same) (.cons rfl (.cons rfl .nil)) fun _ _ _ _ _ h => h) (fun n σ H' => Same (upd H t (.tup [hv i, hv j])) H' ∧ ∃ u, σ = [some (.ref x), some (hv i), some (hv j), u]) ⟨.refl _, _, rfl⟩ (fun _ _ _ h => h.1) ?_ ?_
    · rintro n h _ σ H0 H1 hu ⟨s0, u, rfl⟩ s01 rfl
      have hm : h ∈ W.hs := by
        have := mem_of n hu
        simp at this
        rcases this with rfl | rfl <;> assumption
      have s1 := s0.trans s01
      have sx := st.trans s1
      refine ⟨_, rfl, _, rfl, x, dx0, fs0, rfl, sx _ _ m0, mh, x, W, rfl, hx.same sx, fun l H2 s2 n2 hl => ⟨h, l, W.hs, rfl, h6 h hm, hl, fun H3 s3 => ⟨_, rfl, ?_⟩⟩⟩
      rw [decide_eq_true hm]
      exact ⟨s1.trans (s2.trans s3), _, rfl⟩
    · rintro σ H1 ⟨s1, u, rfl⟩
      refine ⟨_, rfl, _, rfl, rfl, _, rfl, ?_⟩
      have : decide (hv i = hv j) = false := by rw [hv_dec]; exact decide_eq_false ne
      rw [this]
      exact ⟨_, rfl, _, rfl, by show 2 ≤ sizeLine; decide, fun p np => q p _ ((st.trans s1).trans (same_new np))⟩
def absF (x : Int × Int) : Int × Int := (if x.1 < 0 then -x.1 else x.1, x.2)
theorem low_neg {a b : Int} : lowF (-a) b = (-(lowF a b).1, (lowF a b).2) := by
  unfold lowF
  rw [Int.natAbs_neg, Int.neg_ediv_of_dvd (gdl a b)]
theorem abs_low {a b : Int} (hb : 0 < b) : absF (lowF a b) = lowF (if a < 0 then -a else a) b := by
  have p := low_pos (a := a) hb
  have r := low_rep (a := a) hb
  unfold absF
  by_cases c : a < 0
  · have : (lowF a b).1 < 0 := by
      rcases Int.lt_or_le (lowF a b).1 0 with d | d
      · exact d
      · have h1 : 0 ≤ (lowF a b).1 * b := Int.mul_nonneg d (by omega)
        have h2 : a * (lowF a b).2 < 0 := Int.mul_neg_of_neg_of_pos c p
        omega
    rw [if_pos this, if_pos c, low_neg]
  · have : ¬ (lowF a b).1 < 0 := by
      intro d
      have h1 : (lowF a b).1 * b < 0 := Int.mul_neg_of_neg_of_pos d hb
      have h2 : 0 ≤ a * (lowF a b).2 := Int.mul_nonneg (by omega) (by omega)
      omega
    rw [if_neg this, if_neg c]
def apN (on tn : Nat → Int) (i j : Nat) : Int := if (on i - tn i) - (on j - tn j) < 0 then -((on i - tn i) - (on j - tn j)) else (on i - tn i) - (on j - tn j)
def spApart (K : PySem.W.Frag) : Sp := fun vs H Q _ => ∃ (x o t : Addr) (W : Wd) (on tn : Nat → Int) (tq : Int) (i j : Nat), vs = [.ref x, .ref o, .ref t, hv i, hv j] ∧ LogAt K H x W ∧ W.Ok ∧ RdK H o W.hs (frT on tq) ∧ RdK H t W.hs (frT tn tq) ∧ TkOk W.hs on tq ∧ TkOk W.hs tn tq ∧ i ∈ W.hs ∧ j ∈ W.hs ∧ i ≠ j ∧
  ∀ p H', Same H H' → H p = none → FrAt H' p (lowF (apN on tn i j) tq) → Q (.ref p) H'
theorem tk_sz {hs : List Nat} {tn : Nat → Int} {tq : Int} (k : TkOk hs tn tq) {h : Nat} (hh : h ∈ hs) : Sz 2000 (lowF (tn h) tq) := low_sz k.1 (pw (k.2.2 h hh)) (pw k.2.1)
theorem tk_low {hs : List Nat} {tn : Nat → Int} {tq : Int} (k : TkOk hs tn tq) : (fun h => lowF (frT tn tq h).1 (frT tn tq h).2) = frT tn tq := funext fun h => low_low k.1
theorem ok_apart (T : Txt K mg) : CallOk P w K mg base CX0 5 "apart" ["log", "offsets", "correction", "one", "other"] [] (spApart K) := by
  have M_hands : MethOk P w K mg base CX0 1 (aLog K) "hands" ["self"] (spHands K) := m_hands T
  have C_checked_reading : CallOk P w K mg base (L2.CX P w) 4 "checked_reading" ["thing", "hands"] [] (spCR K) := ok_cr T
  have C_checked_pair : CallOk P w K mg base CX0 3 "checked_pair" ["log", "one", "other"] [] (spCP K) := ok_cp T
  have C_less : CallOk P w K mg base CX0 2 "less" ["one", "other"] [] spLess := ok_less T
  refine def_ok (st := s_apart) T 26 20 rfl rfl sc_apart (fun _ _ _ _ _ _ us hl => match us, hl with | [_, _, _, _, _], _ => rfl) (fun vs H Q E h => ?_) (fun cdv f A outer s H vs Q E hr h => ?_)
  · obtain ⟨x, o, t, W, on, tn, tq, i, j, rfl, _⟩ := h
    rfl
  · obtain ⟨x, o, t, W, on, tn, tq, i, j, rfl, hx, ok, ho, ht, ko, kt, hi, hj, ne, q⟩ := h
    refine ⟨_, PSs.nox (pss_cons (ps_par (i := 5) (j := 6) (by rfl) sc_apart.nd rfl rfl (by decide) rfl rfl (pa_cons (pe_callT C_checked_reading (hr.mono (by decide)) (by rfl) passL (pa_cons (pv 1) (pa_cons (pe_meth0T M_hands (logCls T) (hr.mono (by decide)) pass0 (pv 0)) pa_nil))) (pa_cons (pe_callT C_checked_reading (hr.mono (by decide)) (by rfl) passL (pa_cons (pv 2) (pa_cons (pe_meth0T M_hands (logCls T) (hr.mono (by decide)) pass0 (pv 0)) pa_nil))) pa_nil)) (by rfl))
      (pss_cons (ps_expr (pe_callT C_checked_pair (hr.mono (by decide)) (by rfl) pass0 (pa_cons (pv 0) (pa_cons (pv 3) (pa_cons (pv 4) pa_nil)))))
      (pss_cons (ps_set (i := 7) sc_apart.nd rfl (.inl rfl) (pe_callT C_less (hr.mono (by decide)) (by rfl) pass0 (pa_cons (pe_callT C_less (hr.mono (by decide)) (by rfl) pass0 (pa_cons (pe_dget (hu_of hr) (pv 5) (pv 3) (fun _ _ => rfl)) (pa_cons (pe_dget (hu_of hr) (pv 6) (pv 3) (fun _ _ => rfl)) pa_nil))) (pa_cons (pe_callT C_less (hr.mono (by decide)) (by rfl) pass0 (pa_cons (pe_dget (hu_of hr) (pv 5) (pv 4) (fun _ _ => rfl)) (pa_cons (pe_dget (hu_of hr) (pv 6) (pv 4) (fun _ _ => rfl)) pa_nil))) pa_nil))))
      (pss_one (ps_ret (pe_tup (pa_cons (pe_callB (id := "abs") call_abs (by rfl) T.f_abs (by decide +kernel) (pa_cons (pe_ix (ix_tupK (K := K) rfl) (pv 7) (pe_int) (fun _ _ => rfl)) pa_nil)) (pa_cons (pe_ix (ix_tupK (K := K) rfl) (pv 7) (pe_int) (fun _ _ => rfl)) pa_nil)))))))), ?_⟩
    obtain ⟨dx0, fs0, m0, mh, _, _⟩ := hx.m
    have h5 := ok.h5
    have h2 := ok.h2
    refine ⟨_, rfl, _, rfl, x, dx0, fs0, rfl, m0, mh, x, W, rfl, hx, fun l H1 s1 n1 hl => ?_⟩
    refine ⟨.ref o, l, W.hs, rfl, hl, ok.nd, by omega, by omega, .inl ⟨o, _, rfl, ho.same s1, fun h hh => tk_sz ko hh, fun po H2 s2 n2 hpo => ?_⟩⟩
    rw [tk_low ko] at hpo
    have s12 := s1.trans s2
    refine ⟨_, rfl, _, rfl, x, dx0, fs0, rfl, s12 _ _ m0, mh, x, W, rfl, hx.same s12, fun l2 H3 s3 n3 hl2 => ?_⟩
    refine ⟨.ref t, l2, W.hs, rfl, hl2, ok.nd, by omega, by omega, .inl ⟨t, _, rfl, (ht.same s12).same s3, fun h hh => tk_sz kt hh, fun pt H4 s4 n4 hpt => ?_⟩⟩
    rw [tk_low kt] at hpt
    have s14 := (s12.trans s3).trans s4
    have hpo4 := (hpo.same s3).same s4
    refine ⟨_, _, rfl, ?_⟩
    refine ⟨_, rfl, _, rfl, _, rfl, x, W, i, j, rfl, hx.same s14, hi, hj, ne, ok.h6, fun _ H5 s5 => ?_⟩
    have s15 := s14.trans s5
    obtain ⟨b1, g1, f1⟩ := (hpo4.same s5).get hi
    obtain ⟨b2, g2, f2⟩ := (hpt.same s5).get hi
    refine ⟨_, rfl, _, rfl, po, _, rfl, g1, _, rfl, _, rfl, pt, _, rfl, g2, b1, b2, _, _, rfl, f1, f2, tk_sz ko hi, tk_sz kt hi, fun p6 H6 s6 n6 f6 => ?_⟩
    rw [less_low ko.1] at f6
    obtain ⟨b3, g3, f3⟩ := ((hpo4.same s5).same s6).get hj
    obtain ⟨b4, g4, f4⟩ := ((hpt.same s5).same s6).get hj
    refine ⟨_, rfl, _, rfl, po, _, rfl, g3, _, rfl, _, rfl, pt, _, rfl, g4, b3, b4, _, _, rfl, f3, f4, tk_sz ko hj, tk_sz kt hj, fun p7 H7 s7 n7 f7 => ?_⟩
    rw [less_low ko.1] at f7
    have z1 : Sz 2000 (lowF (on i - tn i) tq) := low_sz ko.1 (pw (sub_sz (ko.2.2 i hi) (kt.2.2 i hi))) (pw ko.2.1)
    have z2 : Sz 2000 (lowF (on j - tn j) tq) := low_sz ko.1 (pw (sub_sz (ko.2.2 j hj) (kt.2.2 j hj))) (pw ko.2.1)
    refine ⟨p6, p7, _, _, rfl, s7 _ _ f6, f7, z1, z2, fun p8 H8 s8 n8 f8 => ?_⟩
    rw [less_low ko.1] at f8
    refine ⟨_, rfl, p8, _, 0, _, rfl, rfl, .of f8, rfl, _, rfl, _, rfl, p8, _, 1, _, rfl, rfl, .of f8, rfl, by show 2 ≤ sizeLine; decide, fun p np => ?_⟩
    have s18 := ((s15.trans s6).trans s7).trans s8
    refine q p _ (s18.trans (same_new np)) (s18.free np) ?_
    have e := abs_low (a := (on i - tn i) - (on j - tn j)) ko.1
    unfold apN
    rw [← e]
    exact upd_same
/-! ### what is told of a log -/
def rowV (k : Nat × Nat) (x : Int × Option Int) : List V := [hv k.1, hv k.2, .int x.1] ++ match x.2 with
  | none => []
  | some m => [.int m]
def ToldAt (H : Hp) (p : Addr) (W : Wd) : Prop := ∃ a b c, H p = some (.tup [.ref a, .ref b, .ref c]) ∧ H a = some (.tup (W.hs.map hv)) ∧ (∃ xs, H b = some (.tup xs) ∧ Paired (IsT (fun k => rowV k (W.rd k)) H) xs W.ks) ∧ ∃ ys, H c = some (.tup ys) ∧ Paired (IsT Lt.v H) ys W.ls
def spTold (K : PySem.W.Frag) : Sp := fun vs H Q _ => ∃ (x : Addr) (W : Wd), vs = [.ref x] ∧ LogAt K H x W ∧ W.ks.Nodup ∧ W.ks.length ≤ 1000 ∧ ∀ p H', Same H H' → H p = none → ToldAt H' p W → Q (.ref p) H'
theorem isT_unlock {α : Type} {f : α → List V} {H' : Hp} {d : Addr} {od : Obj} {u o : HO} {v : V} {x : α} (hd : H' d = some (.frz od u)) (h : IsT f H' v x) : IsT f (upd H' d o) v x := by
  obtain ⟨b, e, z⟩ := h
  exact ⟨b, e, by rw [upd_ne (ne_of z hd fun y => by cases y)]; exact z⟩
theorem ok_told (T : Txt K mg) : CallOk P w K mg base CX0 2 "told_log" ["log"] [] (spTold K) := by
  have M_hands : MethOk P w K mg base CX0 1 (aLog K) "hands" ["self"] (spHands K) := m_hands T
  have M_roads : MethOk P w K mg base CX0 1 (aLog K) "roads" ["self"] (spRoads K) := m_roads T
  have M_letters : MethOk P w K mg base CX0 1 (aLog K) "letters" ["self"] (spLetters K) := m_letters T
  refine def_ok (st := s_told_log) T 35 29 rfl rfl sc_told_log (fun _ _ _ _ _ _ us hl => match us, hl with | [_], _ => rfl) (fun vs H Q E h => ?_) (fun cdv f A outer s H vs Q E hr h => ?_)
  · obtain ⟨x, W, rfl, _⟩ := h
    rfl
  · obtain ⟨x, W, rfl, hx, nd, kz, q⟩ := h
    refine ⟨_, PSs.nox (pss_cons (ps_set (i := 1) sc_told_log.nd rfl (.inr rfl) (pe_meth0T M_roads (logCls T) (hr.mono (by decide)) pass0 (pv 0)))
      (pss_cons (ps_lock (ps_setLc (i := 2) (own := [("road", 3)]) (by rfl) sc_told_log.nd rfl rfl (sw_true rfl rfl rfl (by decide +kernel)) (pi_keys (pv 1)) (blkOk_by (own := [("road", 3)]) (N := ["log", "roads", "rows", "road", "bound"]) (sc := defScope (topS 45)) (by decide +kernel)) (fun _ _ _ _ _ => (pg_name (i := 3) sc_told_log.nd rfl (.inl rfl))) (fun _ _ _ _ _ => pts_nil) (fun _ _ _ _ _ => (pe_op (op_catK (K := K) rfl) (pv 3) (pe_callTy (T := "tuple") (call_tupK (K := K) rfl) (by rfl) T.f_tuple (by decide +kernel) (pa_cons (pe_lc (own := [("bound", 4)]) (by rfl) sc_told_log.nd (pi_tupK (K := K) rfl (pe_dget (hu_of hr) (pv 1) (pv 3) (fun _ _ => rfl))) (blkOk_by (own := [("bound", 4)]) (N := ["log", "roads", "rows", "road", "bound"]) (sc := relS { kind := .function, names := [(".0", .local), ("road", .local), ("tuple", .globalImplicit), ("roads", .free)], isGenerator := false, isCoroutine := false } (defScope s_told_log)) (by decide +kernel)) (fun _ _ _ _ _ => (pg_name (i := 4) sc_told_log.nd rfl (.inl rfl))) (fun _ _ _ _ _ => pts_one (pt_cmpR op_notN (pv 4) (pe_non) (nomark _))) (fun _ _ _ _ _ => (pv 4))) pa_nil))))))
      (pss_one (ps_ret (pe_tup (pa_cons (pe_callTy (T := "tuple") (call_tupK (K := K) rfl) (by rfl) T.f_tuple (by decide +kernel) (pa_cons (pe_meth0T M_hands (logCls T) (hr.mono (by decide)) pass0 (pv 0)) pa_nil)) (pa_cons (pe_callTy (T := "tuple") (call_tupK (K := K) rfl) (by rfl) T.f_tuple (by decide +kernel) (pa_cons (pv 2) pa_nil)) (pa_cons (pe_callTy (T := "tuple") (call_tupK (K := K) rfl) (by rfl) T.f_tuple (by decide +kernel) (pa_cons (pe_meth0T M_letters (logCls T) (hr.mono (by decide)) pass0 (pv 0)) pa_nil)) pa_nil)))))))), ?_⟩
    obtain ⟨dx0, fs0, m0, mh, mr, ml⟩ := hx.m
    refine ⟨_, rfl, x, dx0, fs0, rfl, m0, mr, x, W, rfl, hx, nd, kz, fun r H1 s1 n1 hr1 => ?_⟩
    obtain ⟨v, hr, hv1⟩ := hr1
    refine ⟨r, _, hr, trivial, fun od => ⟨_, rfl, r, od, rfl, .inr ⟨_, upd_same, fun D nD => ?_⟩⟩⟩
    have lk : ∀ b o, H1 b = some o → o ≠ .dT (dt W.ks v) → (upd H1 r (.frz od (.dT (dt W.ks v)))) b = some o := fun b o h n => locked hr h n
    refine lcw (us := W.ks) IsPr (IsT fun k => rowV k (W.rd k)) (fun _ => true) id (wk_keysP upd_same) (isT_keep _) (Nat.le_trans kz (by decide)) ?_ nD ?_
    · rintro i _ k H2 QF QT hu ⟨t, rfl, ht⟩ s2 _ qt
      have hk := mem_of i hu
      obtain ⟨b, e1, e2⟩ := hv1 k hk
      have hb := s2 _ _ (lk _ _ e2 fun z => by cases z)
      refine ⟨rfl, _, rfl, _, rfl, _, rfl, r, v k, rfl, ?_, b, by rw [e1], ⟨_, .of hb⟩, fun E0' nE => ?_⟩
      · have := get_dt (v := v) (.inr ⟨od, s2 _ _ upd_same⟩) ht
        rw [if_pos hk] at this
        exact this
      refine lcw (us := [some (W.rd k).1, (W.rd k).2]) (fun _ v u => v = optI u) (fun _ v u => v = .int u) (fun o => o.isSome) (fun o => o.getD 0) (wk_tup (.of hb) (.cons rfl (.cons rfl .nil)) fun _ _ _ _ _ h => h) (fun _ _ _ _ _ h => h) (by show 2 ≤ 1000000; decide) ?_ nE ?_
      · rintro j _ u H3 QF QT hj rfl s3 qf qt'
        refine ⟨rfl, _, rfl, rfl, _, rfl, ?_⟩
        cases u with
        | none => exact qf rfl _ (.refl _)
        | some y => exact ⟨_, rfl, qt' rfl _ _ (.refl _) rfl⟩
      · intro ys H3 s3 hE hPy
        have ey : ys = (([some (W.rd k).1, (W.rd k).2].filter fun o => o.isSome).map fun o => o.getD 0).map V.int := pr_eq V.int hPy
        have ey' : [hv k.1, hv k.2] ++ ys = rowV k (W.rd k) ∧ ys ≠ [] ∧ ys.length ≤ 2 := by
          rw [ey]
          unfold rowV
          cases (W.rd k).2 with
          | none => exact ⟨rfl, (fun z => nomatch z), by show 1 ≤ 2; decide⟩
          | some m => exact ⟨rfl, (fun z => nomatch z), by show 2 ≤ 2; decide⟩
        clear ey
        refine ⟨E0', ys, rfl, .inl ⟨.of hE, fun g ng => ?_⟩⟩
        have sg := same_new (o := .tup ys) ng
        refine ⟨t, g, [hv k.1, hv k.2], ys, rfl, rfl, .of (sg _ _ (s3 _ _ ht)), .of upd_same, Nat.le_trans (Nat.add_le_add_left ey'.2.2 2) (by decide), (fun z => nomatch z), (fun _ z => (ey'.2.1 z).elim), fun _ _ z nz => ?_⟩
        refine qt rfl _ _ ((s3.trans sg).trans (same_new nz)) ⟨z, rfl, ?_⟩
        rw [upd_same]
        show some (HO.tup ([hv k.1, hv k.2] ++ ys)) = some (HO.tup (rowV k (W.rd k)))
        rw [ey'.1]
    · intro ys H2 s2 hD hP
      rw [filter_all, List.map_id] at hP
      have hrr := s2 _ _ (upd_same (H := H1) (a := r) (o := .frz od (.dT (dt W.ks v))))
      refine ⟨hrr, ?_⟩
      have sH := unlock s2 hr
      have nDH : H1 D = none := by
        have : D ≠ r := (ne_of_none upd_same nD).symm
        rw [upd_ne this] at nD
        exact nD
      have Dr : D ≠ r := (ne_of_none hr nDH).symm
      have hD3 : (upd H2 r (.dT (dt W.ks v))) D = some (.lst ys) := by rw [upd_ne Dr]; exact hD
      have hP3 : Paired (IsT (fun k => rowV k (W.rd k)) (upd H2 r (.dT (dt W.ks v)))) ys W.ks := pr_mono hP fun v k h => isT_unlock hrr h
      generalize upd H2 r (.dT (dt W.ks v)) = H3 at sH hD3 hP3 ⊢
      have s13 := s1.trans sH
      have hx3 := hx.same s13
      refine ⟨_, rfl, x, dx0, fs0, rfl, s13 _ _ m0, mh, x, W, rfl, hx3, fun l1 H4 s4 n4 hl1 => ?_⟩
      refine ⟨l1, _, rfl, .inl ⟨.of hl1, fun a na => ?_⟩⟩
      have sa := same_new (o := .tup (W.hs.map hv)) na
      have h5 : (upd H4 a (.tup (W.hs.map hv))) a = some (.tup (W.hs.map hv)) := upd_same
      have s35 := s4.trans sa
      generalize upd H4 a (.tup (W.hs.map hv)) = H5 at sa h5 s35 ⊢
      refine ⟨_, rfl, D, ys, rfl, .inl ⟨.of (s35 _ _ hD3), fun b nb => ?_⟩⟩
      have sb := same_new (o := .tup ys) nb
      have h6 : (upd H5 b (.tup ys)) b = some (.tup ys) := upd_same
      have s36 := s35.trans sb
      have s56 := sb
      generalize upd H5 b (.tup ys) = H6 at h6 s36 s56 ⊢
      refine ⟨_, rfl, x, dx0, fs0, rfl, s36 _ _ (s13 _ _ m0), ml, x, W, rfl, hx3.same s36, fun l2 H7 s7 n7 hl2 => ?_⟩
      obtain ⟨zs, hz, hzp⟩ := hl2
      refine ⟨l2, zs, rfl, .inl ⟨.of hz, fun c nc => ?_⟩⟩
      have sc := same_new (o := .tup zs) nc
      refine ⟨by show 3 ≤ sizeLine; decide, fun p np => ?_⟩
      have sp := same_new (o := .tup [.ref a, .ref b, .ref c]) np
      have s78 := sc.trans sp
      have s68 := s7.trans s78
      have sAll := (s13.trans s36).trans s68
      refine q p _ sAll ((s13.trans s36).free (s7.free (sc.free np))) ⟨a, b, c, upd_same, s68 _ _ (s56 _ _ h5), ⟨ys, s68 _ _ h6, pr_mono hP3 fun v k h => isT_same _ _ _ _ _ (s36.trans s68) h⟩, zs, sp _ _ upd_same, pr_mono hzp fun v k h => isT_same _ _ _ _ _ s78 h⟩
end
end K80

set_option maxHeartbeats 4000000
/-! lambdas with captured names, handed on to other defs; three except clauses -/
namespace K80
open PySem PySem.Spec L2 LamX NdefX
open PyProof.Rows hiding St
/-- a lambda: its words, its captured cells, its code object -/
structure LF where
  qual : Str
  params : Arguments
  body : Expr
  scope : Scope
  cl : List (Str × Addr)
  c : Addr
def LamO (f : Addr) (F : LF) : HO := .ext fun h => ∃ pm ctv, h.get? f = some (PySem.W.kla_obj "<lambda>" F.qual F.params F.body F.scope F.cl pm F.c ctv)
/-- a code object of the name q with its table at P -/
def CdO (c : Addr) (q : Str) (P : Addr) : HO := .ext fun h => (∃ oc vs t, h.get? c = some oc ∧ oc.data = .fields vs ∧ vs[1]? = some (.str q t)) ∧ PySem.W.CodeHd h c P
theorem lamO_at {P : Program} {w : World} {H : Hp} {h : Heap} {f : Addr} {F : LF} (hok : HOk P w H h) (e : H f = some (LamO f F)) : ∃ pm ctv, h.get? f = some (PySem.W.kla_obj "<lambda>" F.qual F.params F.body F.scope F.cl pm F.c ctv) := (hok f _ e).1
theorem cdO_at {P : Program} {w : World} {H : Hp} {h : Heap} {c : Addr} {q : Str} {T : Addr} (hok : HOk P w H h) (e : H c = some (CdO c q T)) : (∃ oc vs t, h.get? c = some oc ∧ oc.data = .fields vs ∧ vs[1]? = some (.str q t)) ∧ PySem.W.CodeHd h c T := (hok c _ e).1
theorem cdO_ok {P : Program} {w : World} {H : Hp} {h : Heap} {c : Addr} {q : Str} {T : Addr} (a : ∃ oc vs t, h.get? c = some oc ∧ oc.data = .fields vs ∧ vs[1]? = some (.str q t)) (b : PySem.W.CodeHd h c T) : ObjOk P w H h c (CdO c q T) :=
  ⟨⟨a, b⟩, let ⟨o, _, _, e, _⟩ := a; ⟨o, e⟩, fun h1 h2 ⟨⟨oc, vs, t, e1, e2⟩, o, v, x1, x2, x3, x4, x5, x6, x7, f1, f2⟩ st => ⟨⟨oc, vs, t, st _ e1, e2⟩, o, v, x1, x2, x3, x4, x5, x6, x7, st _ f1, f2⟩⟩
theorem lamO_ok {P : Program} {w : World} {H : Hp} {h : Heap} {f : Addr} {F : LF} (a : ∃ pm ctv, h.get? f = some (PySem.W.kla_obj "<lambda>" F.qual F.params F.body F.scope F.cl pm F.c ctv)) : ObjOk P w H h f (LamO f F) :=
  ⟨a, let ⟨_, _, e⟩ := a; ⟨_, e⟩, fun h1 h2 ⟨pm, ctv, e⟩ st => ⟨pm, ctv, st _ e⟩⟩
/-- the same words as a nested def's, for its context -/
abbrev LF.nf (F : LF) : NF := ⟨"<lambda>", F.qual, F.params, [], F.scope, F.cl, F.c⟩
section
variable {CX : CXT} {P : Program} {w : World} {K : PySem.W.Frag} {mg : Str → Option Value} {base : Heap} {N ps fr : List Str} {F : LF} {f Pt : Addr} {k : Nat} {A : Around} {outer : List Env} {s : Shared} {H : Hp} {us : List Value} {vs : List V} {ws : List (Option V)} {Q : VK} {E : XK}
/-- a lambda is called -/
theorem lam_run (S : NScope N ps fr F.scope) (hb : ∀ pm cv ctv, bindArgs (PySem.W.kla_fn "<lambda>" F.qual F.params F.body F.scope F.cl pm cv ctv) ⟨us, []⟩ = pure (ps.zip us)) (hr : Room (k + 1) A) (e0 : Env0 P w K mg base A outer s H) (hf : H f = some (LamO f F)) (hc : H F.c = some (CdO F.c F.qual Pt))
    (C : CellsAt F.cl fr ws s.heap H) (r : Vals vs us) (hl : vs.length = ps.length)
    (hbody : Room k (A.deeper (envF F.nf f s.heap.objs.size)) → ∃ te, PE (ncx CX P w K mg base N F.nf f A outer s H E) F.body te ∧ te (startF N vs ws) H Q) : codeAny (model P w) A (.call (.ref f) ⟨us, []⟩) (CR CX outer P w H s Q E) s := by
  have lim : s.heap.NoLimit := e0.mod.nolimit.keeps fun b o e => (e0.bs b o e).1
  obtain ⟨pm, ctv, ho⟩ := lamO_at e0.hok hf
  obtain ⟨⟨oc, v1, t1, g1, g2, g3⟩, _⟩ := cdO_at e0.hok hc
  refine PySem.W.kla_callFunE hr.depth ho rfl S.co S.gen rfl ⟨F.c, oc, v1, t1, rfl, g1, g2, g3⟩ ?_
  rw [hb]
  refine wpAny_pure (wpAny_newFunctionEnv S.nocell (fun ⟨n, _⟩ hy => S.par n (List.of_mem_zip hy).1) (fun h₁ hns hsb => ⟨lim.fresh _ hsb, ?_⟩) S.kind)
  show codeAny _ _ (.expr F.body (envF F.nf f s.heap.objs.size)) _ _
  have kp : ∀ b o, s.heap.get? b = some o → h₁.get? b = some o := fun b o e => hsb.extBut b o (Nat.ne_of_lt (Heap.lt_size e)) (Heap.get?_push_of_some _ e)
  obtain ⟨te, ht, hq⟩ := hbody (hr.deeper _)
  have J := inv_startN (CX := CX) (f := f) (E := E) (tk := s.toks + (ps.zip us).length) (F := F.nf) S hr.hd e0 hl r C hns kp
  exact PySem.W.kla_codeExpr (wpAny_mono (ht.run [] _ _ H Q J hq) (fun v s' ⟨x, H', J', rv, q⟩ => ⟨x, H', J'.os, J'.bare, J'.base, J'.hok, rv, q⟩) fun e s' q => q)
/-- what is told as objects by .ext stays -/
def KeepE (H H' : Hp) : Prop := ∀ b φ, H b = some (.ext φ) → H' b = some (.ext φ)
/-- f may be called, keeping sp, from any later state of the frames st0 and newer ones -/
structure Cb (P : Program) (w : World) (K : PySem.W.Frag) (mg : Str → Option Value) (base : Heap) (CX : CXT) (k : Nat) (f : Addr) (sp : Sp) (st0 : List Env) (s : Shared) (H : Hp) : Prop where
  fn : ∃ F, H f = some (LamO f F)
  run : ∀ (A : Around) (outer : List Env) (s' : Shared) (H' : Hp) (us : List Value) (vs : List V) (Q : VK) (E : XK), Room k A → Env0 P w K mg base A outer s' H' → Un (frs outer) [] H H' s.heap s'.heap → KeepE H H' → (∀ b ∈ frs outer, b ∈ frs st0 ∨ s.heap.objs.size ≤ b) →
    Vals vs us → sp vs H' Q E → codeAny (model P w) A (.call (.ref f) ⟨us, []⟩) (CR CX outer P w H' s' Q E) s'
end
section
variable {X : Cx} {pins : List (Addr × Obj)} {σ : L2.St} {H : Hp} {s : Shared} {CX : CXT} {N ps fr : List Str} {F : LF} {f Pt : Addr} {k : Nat} {js : List Nat} {sp : Sp}
theorem cb_make (I : Inv X pins σ H s) (cp : Caps X F.cl fr js) (nfs : ∀ y c, F.cl.lookup y = some c → c ∉ X.fs) (hf : H f = some (LamO f F)) (hc : H F.c = some (CdO F.c F.qual Pt)) (S : NScope N ps fr F.scope)
    (hb : ∀ (us : List Value), us.length = ps.length → ∀ pm cv ctv, bindArgs (PySem.W.kla_fn "<lambda>" F.qual F.params F.body F.scope F.cl pm cv ctv) ⟨us, []⟩ = pure (ps.zip us)) (len : ∀ vs H Q E, sp vs H Q E → vs.length = ps.length)
    (hbody : ∀ (A : Around) (outer : List Env) (s' : Shared) (H' : Hp) (vs : List V) (Q : VK) (E : XK), Room k (A.deeper (envF F.nf f s'.heap.objs.size)) → (∀ y c, F.cl.lookup y = some c → c ∉ frs outer) → KeepE H H' → sp vs H' Q E →
      ∃ te, PE (ncx CX X.prog X.w X.K X.mg X.base N F.nf f A outer s' H' E) F.body te ∧ te (startF N vs (js.map (slotAt σ))) H' Q) : Cb X.prog X.w X.K X.mg X.base CX (k + 1) f sp X.stack s H := by
  refine ⟨⟨F, hf⟩, fun A outer s' H' us vs Q E hr e0 un ke hfr r q => ?_⟩
  have C := cells_of I cp
  have nf : ∀ y c, F.cl.lookup y = some c → c ∉ frs outer := fun y c e hm => by
    rcases hfr c hm with z | z
    · rcases List.mem_cons.mp (I.stkSub _ z) with z | z
      · exact I.cne y c (cp.sub y c e) z
      · exact nfs y c e z
    · obtain ⟨_, v, o, ho, _⟩ := C.all y c e
      exact Nat.not_le_of_lt (Heap.lt_size ho) z
  have kc : ∀ y c, F.cl.lookup y = some c → ∀ v, s.heap.IsCell c v → s'.heap.IsCell c v := fun y c e v ⟨o, ho, hd⟩ => ⟨o, un.keep c o ho (C.all y c e).1 (nf y c e) (fun z => by cases z), hd⟩
  have C' : CellsAt F.cl fr (js.map (slotAt σ)) s'.heap H' := by
    refine ⟨C.len, fun y c e => ?_, C.inj, fun i y e => ?_⟩
    · obtain ⟨n, v, z⟩ := C.all y c e
      obtain ⟨o, ho, hd⟩ := id z
      exact ⟨un.free c o ho n (fun z => by cases z), v, kc y c e v z⟩
    · obtain ⟨c, h1, h2⟩ := C.has i y e
      exact ⟨c, h1, fun v ev => let ⟨u, ru, z⟩ := h2 v ev; ⟨u, ru, kc y c h1 _ z⟩⟩
  have hl := len _ _ _ _ q
  exact lam_run S (hb us (r.length ▸ hl)) hr e0 (ke _ _ hf) (ke _ _ hc) C' r hl fun hr' => hbody A outer s' H' vs Q E hr' nf ke q
end
/-! ### x(..), x a parameter that may be called -/
section
variable {X : Cx} {CX : CXT} {k i : Nat} {f : Addr} {sp : Sp} {E : XK} {x : Str} {p pos : Pos} {e : Expr} {es : List Expr} {t : TA}
def tCb (i : Nat) (f : Addr) (sp : Sp) (E : XK) (H0 : Hp) (t : TA) : TE := fun σ H Q => σ[i]? = some (some (.ref f)) ∧ KeepE H0 H ∧ t σ H fun vs H1 => KeepE H0 H1 ∧ sp vs H1 Q E
theorem cb_call {pins : List (Addr × Obj)} {σ : L2.St} {H : Hp} {s : Shared} {Q : VK} {us : List Value} {vs : List V} (C : Cb X.prog X.w X.K X.mg X.base CX k f sp X.outer X.s_0 X.H_0) (hex : X.ex = []) (hst : X.stack = X.env :: X.outer) (hfr : X.env.frame = some X.env.locals) (hr : Room k X.A) (hx : Passes CX X E)
    (I : Inv X pins σ H s) (ke : KeepE X.H_0 H) (r : Vals vs us) (q : sp vs H Q E) : wpAny (model X.prog X.w) X.A (call (.ref f) us) (EP X pins σ Q) X.xe s := by
  have un : Un (frs X.stack) [] X.H_0 H X.s_0.heap s.heap := by
    have z := I.base
    rw [hex] at z
    refine z.mono (fun b hb => ?_) fun b hb => hb
    rw [hst]
    unfold frs at hb ⊢
    rw [List.filterMap_cons, hfr]
    exact List.mem_cons_of_mem _ hb
  have fr : ∀ b ∈ frs X.stack, b ∈ frs X.outer ∨ X.s_0.heap.objs.size ≤ b := fun b hb => by
    rw [hst] at hb
    unfold frs at hb
    rw [List.filterMap_cons, hfr] at hb
    rcases List.mem_cons.mp hb with z | z
    · exact .inr (z ▸ I.ok.above)
    · exact .inl z
  refine wpAny_call (codeAny_mono (C.run X.A X.stack s H us vs Q E hr I.env0 un ke fr r q) fun r s' hq => ?_)
  cases r with
  | error e => exact hx pins σ H s e s' I hq
  | ok fl =>
    cases fl with
    | ret u => exact I.after hq
    | next => exact hq.elim
    | brk => exact hq.elim
    | cont => exact hq.elim
theorem lam_fnAt {pins : List (Addr × Obj)} {σ : L2.St} {H : Hp} {s : Shared} {F : LF} (I : Inv X pins σ H s) (e : H f = some (LamO f F)) : PySem.W.FnAt f s.heap := let ⟨_, _, ho⟩ := lamO_at I.hok e; ⟨_, _, _, _, ho⟩
theorem pe_cb (C : Cb X.prog X.w X.K X.mg X.base CX k f sp X.outer X.s_0 X.H_0) (hex : X.ex = []) (hst : X.stack = X.env :: X.outer) (hfr : X.env.frame = some X.env.locals) (hr : Room k X.A) (hx : Passes CX X E) (hN : X.N[i]? = some x) (hv : Vis X.env.scope x) (ha : PA X (e :: es) t)
    (hd : (x == ("__debug__" : Str)) = false := by decide) (hcd : (x == ("__classdict__" : Str)) = false := by decide)
    (he : starEach (e :: es) X.env = (false, eval e X.env) :: starEach es X.env := by rfl) (hpl : (backTo pos (starEach es X.env)).any (·.1) = false := by rfl) : PE X (.Call (.Name x p) (e :: es) [] pos) (tCb i f sp E X.H_0 t) := by
  refine ⟨fun pins s σ H Q I ⟨h1, ke, h2⟩ => ?_⟩
  refine wpAny_Call_Name_kw (thn ((pe_var (pos := p) hN hv hd hcd).run pins s σ H (fun v H1 => v = .ref f ∧ H1 = H) I ⟨.ref f, h1, rfl, rfl⟩) fun u s1 ⟨v, H1, I1, r1, ev, eH⟩ => ?_)
  rw [eH] at I1
  rw [ev] at r1
  have eu : u = Value.ref f := r1
  rw [eu]
  obtain ⟨F, hF⟩ := C.fn
  refine PySem.W.callWith_F (first := []) (lam_fnAt I1 (ke _ _ hF)) (thn (ha.run pos pins s1 σ H _ I1 h2) fun us s2 ⟨vs, H2, I2, r, k2, q⟩ => ⟨lam_fnAt I2 (k2 _ _ hF), ?_⟩) he hpl
  exact cb_call C hex hst hfr hr hx I2 k2 r q
theorem pe_cb0 (C : Cb X.prog X.w X.K X.mg X.base CX k f sp X.outer X.s_0 X.H_0) (hex : X.ex = []) (hst : X.stack = X.env :: X.outer) (hfr : X.env.frame = some X.env.locals) (hr : Room k X.A) (hx : Passes CX X E) (hN : X.N[i]? = some x) (hv : Vis X.env.scope x)
    (hd : (x == ("__debug__" : Str)) = false := by decide) (hcd : (x == ("__classdict__" : Str)) = false := by decide) : PE X (.Call (.Name x p) [] [] pos) (tCb i f sp E X.H_0 tNil) := by
  refine ⟨fun pins s σ H Q I ⟨h1, ke, _, q⟩ => ?_⟩
  refine wpAny_Call_Name_kw (thn ((pe_var (pos := p) hN hv hd hcd).run pins s σ H (fun v H1 => v = .ref f ∧ H1 = H) I ⟨.ref f, h1, rfl, rfl⟩) fun u s1 ⟨v, H1, I1, r1, ev, eH⟩ => ?_)
  rw [eH] at I1
  rw [ev] at r1
  have eu : u = Value.ref f := r1
  rw [eu]
  obtain ⟨F, hF⟩ := C.fn
  refine PySem.W.callWith_F0 (first := []) (lam_fnAt I1 (ke _ _ hF)) ?_
  exact cb_call C hex hst hfr hr hx I1 ke .nil q
end
end K80

set_option maxHeartbeats 4000000
/-! break_clocks -/
namespace K80
open PySem PySem.Spec L2 LamX NdefX
open PyProof.Rows hiding St
abbrev s_break_clocks : Stmt := (topS 47)
theorem sc_break_clocks : FnScope ["log", "work", "far", "taken", "pair", "one", "other", "offsets", "free", "want", "more", "found", "hand"] ["log", "work", "far"] (defScope s_break_clocks) := ⟨rfl, rfl, rfl, by decide +kernel, rfl, by decide +kernel, by decide +kernel⟩
section
/-- a def that is handed a lambda f keeping sp, its promise told of the very state -/
structure CallOkS (P : Program) (w : World) (K : PySem.W.Frag) (mg : Str → Option Value) (base : Heap) (k kc : Nat) (x : Str) (ps : List Str) (dvs : List V) (spB : Addr → Sp → Sp) : Prop where
  ex : ∃ (g : Addr) (fd : FuncData) (ds : List Value), mg x = some (.ref g) ∧ PySem.W.keepIn K (.ref g) = true ∧ Binds K fd ps ds ∧ Vals dvs ds ∧ (∀ f sp vs H Q E, spB f sp vs H Q E → vs.length = ps.length) ∧
    ∀ (A : Around) (outer : List Env) (s : Shared) (H : Hp) (args : Args) (us : List Value) (vs : List V) (Q : VK) (E : XK) (f : Addr) (sp : Sp), Room k A → Env0 P w K mg base A outer s H → BindsTo s fd args (ps.zip us) → Vals vs us → Cb P w K mg base (L2.CX P w) kc f sp outer s H → spB f sp vs H Q E →
      codeAny (model P w) A (.call (.ref g) args) (CR (L2.CX P w) outer P w H s Q E) s
variable {X : Cx} {k kc : Nat} {ps : List Str} {spB : Addr → Sp → Sp} {dvs : List V} {E : XK} {x : Str} {p pos : Pos} {e : Expr} {es : List Expr} {t : TA}
def tCallS (X : Cx) (kc : Nat) (spB : Addr → Sp → Sp) (dvs : List V) (E : XK) (t : TA) : TE := fun σ H Q => t σ H fun vs H1 => ∃ f sp, (∀ pins s1, Inv X pins σ H1 s1 → Cb X.prog X.w X.K X.mg X.base (L2.CX X.prog X.w) kc f sp X.stack s1 H1) ∧ spB f sp (vs ++ dvs) H1 Q E
theorem pe_callS (C : CallOkS X.prog X.w X.K X.mg X.base k kc x ps dvs spB) (hr : Room k X.A) (hg : Gl X x) (hx : Passes (L2.CX X.prog X.w) X E) (ha : PA X (e :: es) t)
    (hdb : (x == ("__debug__" : Str)) = false := by decide) (he : starEach (e :: es) X.env = (false, eval e X.env) :: starEach es X.env := by rfl) (hpl : (backTo pos (starEach es X.env)).any (·.1) = false := by rfl) :
    PE X (.Call (.Name x p) (e :: es) [] pos) (tCallS X kc spB dvs E t) := by
  obtain ⟨g, fd, ds, hm, hk, hb, hd, len, run⟩ := C.ex
  refine ⟨fun pins s σ H Q I h => wpAny_Call_Name_kw (ld_glob I hg hm ?_ hdb)⟩
  refine PySem.W.callWith_K (h₀ := X.base) I.ok.mod.kin hk (thn (ha.run pos pins s σ H _ I h) fun us s1 ⟨vs, H1, I1, r, f, sp, cb, q⟩ => ⟨I1.kIn, ?_⟩) he hpl
  have r2 : Vals (vs ++ dvs) (us ++ ds) := r.append hd
  have hl : (us ++ ds).length = ps.length := by rw [← r2.length]; exact len _ _ _ _ _ _ q
  refine wpAny_call (codeAny_mono (run X.A X.stack s1 H1 ⟨us, []⟩ (us ++ ds) (vs ++ dvs) Q E f sp hr I1.env0 (hb s1 us I1.kIn hl) r2 (cb pins s1 I1) q) fun r s' hq => ?_)
  cases r with
  | error e => exact hx pins σ H1 s1 e s' I1 hq
  | ok fl =>
    cases fl with
    | ret u => exact I1.after hq
    | next => exact hq.elim
    | brk => exact hq.elim
    | cont => exact hq.elim
end
section
variable {P : Program} {w : World} {K : PySem.W.Frag} {mg : Str → Option Value} {base : Heap}
theorem keepE_same {H H' : Hp} (s : Same H H') : KeepE H H' := fun b φ e => s b _ e
theorem KeepE.trans {H H1 H2 : Hp} (a : KeepE H H1) (b : KeepE H1 H2) : KeepE H H2 := fun c φ e => b c φ (a c φ e)
/-- the offsets and the pair that break the clocks -/
inductive Brk (W : Wd) (tn : Nat → Int) (tq far : Int) : (Nat → Int) → Nat → Nat → Prop
  | far {up lo i j} (ha : AllSome W) (k : (i, j) ∈ pairs W.hs) (mx : ∀ l ∈ pairs W.hs, slk W tn tq l.1 l.2 ≤ slk W tn tq i j) (f : FreeOff W i up lo) : Brk W tn tq far (offF W i up lo) i j
  | loose {up lo i j z} (k : (i, j) ∈ pairs W.hs) (n : W.far i j = none) (f : FreeOff W i up lo) (hz : z = lowF (far * tq - ((offF W i up lo j - offF W i up lo i) * tq - (tn j - tn i))) tq) :
      Brk W tn tq far (fun h => offF W i up lo h + if h ∈ frees W i then max 0 (z.1 / z.2 + 1) else 0) i j
theorem RdK.congr {H : Hp} {a : Addr} {hs : List Nat} {f g : Nat → Int × Int} (r : RdK H a hs f) (h : ∀ x ∈ hs, f x = g x) : RdK H a hs g := let ⟨v, e, k⟩ := r; ⟨v, e, fun x hx => let ⟨b, e1, e2⟩ := k x hx; ⟨b, e1, h x hx ▸ e2⟩⟩
/-- what is wanted behind the work's answer v -/
def AfterWork (K : PySem.W.Frag) (x : Addr) (W : Wd) (fr : Int) (Q : VK) (E : XK) (H1 : Hp) (v : V) (H2 : Hp) : Prop := LogAt K H2 x W ∧ KeepE H1 H2 ∧
  ((∃ t fw tn tq, v = .ref t ∧ RdK H2 t W.hs fw ∧ (∀ h ∈ W.hs, Sz 2000 (fw h) ∧ lowF (fw h).1 (fw h).2 = frT tn tq h) ∧ TkOk W.hs tn tq ∧ ∀ b o i j off H3, Same H2 H3 → H3 b = some (.tup [.ref o, hv i, hv j]) → RdK H3 o W.hs (fun h => (off h, 1)) → Brk W tn tq fr off i j → Q (.ref b) H3) ∨
   (∀ d H', Thrown H2 v d H' → E (.ref (He.ga K "BadReading")) d H') ∧ ((∃ t, Tyb K H2 v t ∧ t ≠ "dict") ∨ (∃ a, v = .ref a ∧ H2 a = some (.dK [])) ∨ ∃ a, v = .ref a ∧ H2 a = some (.dK (dh W.hs fun _ => .int 1))))
def spBC (K : PySem.W.Frag) (f : Addr) (sp : Sp) : Sp := fun vs H Q E => ∃ (x : Addr) (W : Wd) (far : V), vs = [.ref x, .ref f, far] ∧ LogAt K H x W ∧ WdOk W ∧
  ((∃ t, Tyb K H far t ∧ (t ≠ "int" ∨ ∃ i, far = .int i ∧ i < 0) ∧ ∀ d H', Thrown H far d H' → E (.ref (He.ga K "BadFar")) d H') ∨
   ∃ fr : Int, far = .int fr ∧ 0 ≤ fr ∧ fr.natAbs < 2 ^ 400 ∧ ∀ p H1, Same H H1 → H p = none → ToldAt H1 p W → ∀ Q' : VK, (∀ v H2, AfterWork K x W fr Q E H1 v H2 → Q' v H2) → sp [.ref p] H1 Q' E)
theorem low_sz2 {n : Nat} {a b : Int} (hb : 0 < b) (h1 : a.natAbs < 2 ^ n) (h2 : b.natAbs < 2 ^ n) (hn : n ≤ 2000) : Sz 2000 (lowF a b) := by
  obtain ⟨z1, z2, z3⟩ := low_sz hb h1 h2
  exact ⟨pw z1 hn, pw z2 hn, z3⟩
theorem add_sz {a b : Int} {n : Nat} (h1 : a.natAbs < 2 ^ n) (h2 : b.natAbs < 2 ^ n) : (a + b).natAbs < 2 ^ (n + 1) := by
  have : (a + b).natAbs ≤ a.natAbs + b.natAbs := by omega
  rw [Nat.pow_succ]
  omega
/-- the offsets are not great -/
theorem off_sz {W : Wd} (ok : WdOk W) {one : Nat} (h1 : one ∈ W.hs) {up : Int} {lo : Nat → Int} (F : FreeOff W one up lo) : ∀ h ∈ W.hs, (offF W one up lo h).natAbs < 2 ^ 404 := by
  have zo : ∀ h ∈ W.hs, ∀ v, off0 W one h = some v → v.natAbs < 2 ^ 400 := by
    intro h hh v e
    unfold off0 at e
    split at e
    · cases e; exact Nat.two_pow_pos _
    · exact ok.fz one h v h1 hh e
  have zl : ∀ h ∈ frees W one, (lo h).natAbs < 2 ^ 400 := by
    intro h hh
    obtain ⟨hm, _⟩ := F.low h hh
    rcases List.mem_cons.mp hm with e | e
    · rw [e]; exact Nat.two_pow_pos _
    · unfold lowL at e
      obtain ⟨o, ho, e2⟩ := List.mem_map.mp e
      obtain ⟨ho1, ho2⟩ := List.mem_filter.mp ho
      obtain ⟨y, hy, e3⟩ := List.mem_map.mp ho1
      have hy1 := (mem_frees.mp (List.mem_filter.mp hy).1).1
      have hh1 := (mem_frees.mp hh).1
      cases o with
      | none => cases ho2
      | some v =>
        have := ok.fz y h v hy1 hh1 e3
        rw [← e2]
        exact this
  have zu : up.natAbs < 2 ^ 402 := by
    rcases F.upw with e | ⟨h, hh, o, ho, v, x, e1, e2, e3⟩
    · rw [e]; exact Nat.two_pow_pos _
    · have a1 := zo o ho v e1
      have a2 := ok.fz h o x (mem_frees.mp hh).1 ho e2
      have a3 := zl h hh
      have a4 := sub_sz a1 a2
      have a5 := sub_sz a4 (pw a3)
      rw [e3]
      exact a5
  intro h hh
  unfold offF
  cases e : off0 W one h with
  | some v => exact pw (zo h hh v e)
  | none => exact pw (add_sz zu (pw (zl h (mem_frees.mpr ⟨hh, e⟩))))
/-- the body -/
theorem bc_body (T : Txt K mg) {f : Addr} {sp : Sp} {g : Addr} {cdv : Value} {A : Around} {outer : List Env} {s : Shared} {H : Hp} {vs : List V} {Q : VK} {E : XK} (hr : Room 7 (A.deeper (envOfC "break_clocks" (defScope s_break_clocks) s.heap.objs.size g cdv)))
    (CB : Cb P w K mg base (L2.CX P w) 7 f sp outer s H) (h : spBC K f sp vs H Q E) :
    ∃ t, PSs (cxOf (L2.CX P w) P w K mg base ["log", "work", "far", "taken", "pair", "one", "other", "offsets", "free", "want", "more", "found", "hand"] "break_clocks" (defScope s_break_clocks) g cdv A outer s H E) (defBody s_break_clocks) t ∧ t { nx := fun _ H' => Q .non H', rt := Q } (start ["log", "work", "far", "taken", "pair", "one", "other", "offsets", "free", "want", "more", "found", "hand"] vs) H := by
  have M_hands : MethOk P w K mg base CX0 1 (aLog K) "hands" ["self"] (spHands K) := m_hands T
  have C_checked_reading : CallOk P w K mg base (L2.CX P w) 4 "checked_reading" ["thing", "hands"] [] (spCR K) := ok_cr T
  have C_is_integer : CallOk P w K mg base CX0 1 "is_integer" ["thing"] [] (spIsInteger K) := ok_is_integer T
  have C_told_log : CallOk P w K mg base CX0 2 "told_log" ["log"] [] (spTold K) := ok_told T
  have C_farthest : CallOk P w K mg base CX0 4 "farthest" ["log", "taken"] [] (spFarthest K) := ok_farthest T
  have C_far_offsets : CallOk P w K mg base CX0 3 "far_offsets" ["log", "one"] [] (spFarOff K) := ok_faroff T
  have C_loose_pair : CallOk P w K mg base CX0 2 "loose_pair" ["log"] [] (spLP K) := ok_lp T
  have C_free_offsets : CallOk P w K mg base CX0 2 "free_offsets" ["log", "one"] [] (spFO K) := ok_fo T
  have C_less : CallOk P w K mg base CX0 2 "less" ["one", "other"] [] spLess := ok_less T
  have R_BadFar : ErrOk P w K mg base "BadFar" := errFar T
  obtain ⟨x, W, far, rfl, hx, ok, h⟩ := h
  refine ⟨_, (pss_cons (ps_if (PW.pt (pw_or (pt_not (pt_val (pe_callT C_is_integer (hr.mono (by decide)) (by rfl) pass0 (pa_cons (pv 2) pa_nil)))) (pw_or1 (pt_cmpR op_lt (pv 2) (pe_int) (nomark _))))) (pss_one (ps_raise rfl (takes_of rfl rfl rfl rfl) (pmk_errT R_BadFar (hr.mono (by decide)) (by rfl) (pa_cons (pv 2) pa_nil)))) pss_nil)
      (pss_cons (ps_set (i := 3) sc_break_clocks.nd rfl (.inl rfl) (pe_callT C_checked_reading (hr.mono (by decide)) (by rfl) (passes_call (takes_of rfl rfl rfl rfl) fun _ _ _ _ h => h) (pa_cons (pe_cb (i := 1) CB rfl rfl rfl (hr.mono (by decide)) (passes_call (takes_of rfl rfl rfl rfl) fun _ _ _ _ h => h) (by rfl) (.inl rfl) (pa_cons (pe_callT C_told_log (hr.mono (by decide)) (by rfl) pass0 (pa_cons (pv 0) pa_nil)) pa_nil)) (pa_cons (pe_meth0T M_hands (logCls T) (hr.mono (by decide)) pass0 (pv 0)) pa_nil))))
      (pss_cons (ps_set (i := 4) sc_break_clocks.nd rfl (.inl rfl) (pe_callT C_farthest (hr.mono (by decide)) (by rfl) pass0 (pa_cons (pv 0) (pa_cons (pv 3) pa_nil))))
      (pss_cons (ps_if (pt_cmpR op_notN (pv 4) (pe_non) (nomark _)) (pss_one (ps_ret (pe_tup (pa_cons (pe_callT C_far_offsets (hr.mono (by decide)) (by rfl) pass0 (pa_cons (pv 0) (pa_cons (pe_ix (ix_tupK (K := K) rfl) (pv 4) (pe_int) (fun _ _ => rfl)) pa_nil))) (pa_cons (pe_ix (ix_tupK (K := K) rfl) (pv 4) (pe_int) (fun _ _ => rfl)) (pa_cons (pe_ix (ix_tupK (K := K) rfl) (pv 4) (pe_int) (fun _ _ => rfl)) pa_nil)))))) pss_nil)
      (pss_cons (ps_asg (pe_callT C_loose_pair (hr.mono (by decide)) (by rfl) pass0 (pa_cons (pv 0) pa_nil)) (pg_tupK (K := K) rfl rfl (pgs_cons (pg_name (i := 5) sc_break_clocks.nd rfl (.inl rfl)) (pgs_cons (pg_name (i := 6) sc_break_clocks.nd rfl (.inl rfl)) pgs_nil))))
      (pss_cons (ps_asg (pe_callT C_free_offsets (hr.mono (by decide)) (by rfl) pass0 (pa_cons (pv 0) (pa_cons (pv 5) pa_nil))) (pg_tupK (K := K) rfl rfl (pgs_cons (pg_name (i := 7) sc_break_clocks.nd rfl (.inr rfl)) (pgs_cons (pg_name (i := 8) sc_break_clocks.nd rfl (.inr rfl)) pgs_nil))))
      (pss_cons (ps_set (i := 9) sc_break_clocks.nd rfl (.inl rfl) (pe_callT C_less (hr.mono (by decide)) (by rfl) pass0 (pa_cons (pe_tup (pa_cons (pv 2) (pa_cons (pe_int) pa_nil))) (pa_cons (pe_callT C_less (hr.mono (by decide)) (by rfl) pass0 (pa_cons (pe_tup (pa_cons (pe_op op_sub (pe_dget (hu_of hr) (pv 7) (pv 6) (fun _ _ => rfl)) (pe_dget (hu_of hr) (pv 7) (pv 5) (fun _ _ => rfl))) (pa_cons (pe_int) pa_nil))) (pa_cons (pe_callT C_less (hr.mono (by decide)) (by rfl) pass0 (pa_cons (pe_dget (hu_of hr) (pv 3) (pv 6) (fun _ _ => rfl)) (pa_cons (pe_dget (hu_of hr) (pv 3) (pv 5) (fun _ _ => rfl)) pa_nil))) pa_nil))) pa_nil))))
      (pss_cons (ps_set (i := 10) sc_break_clocks.nd rfl (.inr rfl) (pe_callB (id := "max") (call_max2 rfl) (by rfl) T.f_max (by decide +kernel) (pa_cons (pe_int) (pa_cons (pe_op op_add (pe_op op_fdivW (pe_ix (ix_tupK (K := K) rfl) (pv 9) (pe_int) (fun _ _ => rfl)) (pe_ix (ix_tupK (K := K) rfl) (pv 9) (pe_int) (fun _ _ => rfl))) (pe_int)) pa_nil))))
      (pss_cons (ps_lock (ps_setDcA (.dK []) (.inl rfl) (hu_of hr) (i := 11) (own := [("hand", 12)]) (by rfl) sc_break_clocks.nd rfl rfl (sw_dict rfl rfl rfl (by decide +kernel)) (pi_keys (pv 7)) (blkOk_by (own := [("hand", 12)]) (N := ["log", "work", "far", "taken", "pair", "one", "other", "offsets", "free", "want", "more", "found", "hand"]) (sc := defScope (topS 47)) (by decide +kernel)) (fun _ _ _ _ _ => (pg_name (i := 12) sc_break_clocks.nd rfl (.inl rfl))) (fun _ _ _ _ _ => pts_nil) (fun _ _ _ _ _ => (pv 12)) (fun _ _ _ _ _ => (pe_tup (pa_cons (pe_op op_add (pe_dget (hu_of hr) (pv 7) (pv 12) (fun _ _ => rfl)) (pe_ifExp (pt_cmpR (op_inK (K := K) rfl) (pv 12) (pv 8) (by rfl)) (pv 10) (pe_int))) (pa_cons (pe_int) pa_nil))))))
      (pss_one (ps_ret (pe_tup (pa_cons (pv 11) (pa_cons (pv 5) (pa_cons (pv 6) pa_nil))))))))))))))), ?_⟩
  rcases h with ⟨t, ty, hb, q⟩ | ⟨fr, rfl, f0, fz, hsp⟩
  · refine ⟨_, rfl, _, t, rfl, ty, _, rfl, ?_⟩
    by_cases c : t = "int"
    · subst c
      rcases hb with n | ⟨i, rfl, hi⟩
      · exact (n rfl).elim
      · refine ⟨_, rfl, i, 0, rfl, rfl, _, rfl, ?_⟩
        have e : decide (i < 0) = true := decide_eq_true hi
        rw [e]
        exact ⟨_, rfl, err_read q⟩
    · have e : (t == "int") = false := by simp [c]
      rw [e]
      exact ⟨_, rfl, err_read q⟩
  refine ⟨_, rfl, _, "int", rfl, tyb_int, _, rfl, _, rfl, _, _, rfl, rfl, _, rfl, ?_⟩
  have ef : decide (fr < 0) = false := decide_eq_false (by omega)
  rw [ef]
  have h5 := ok.h5
  have h2 := ok.h2
  refine ⟨rfl, fun _ _ h => h, _, rfl, x, W, rfl, hx, ok.prs.1, ok.prs.2.1, fun p H1 s1 n1 ht => ⟨keepE_same s1, ?_⟩⟩
  refine hsp p H1 s1 n1 ht _ fun v H2 hAW => ?_
  obtain ⟨hx2, k12, hv2⟩ := hAW
  obtain ⟨dx2, fs2, m2, mh2, _, _⟩ := hx2.m
  refine ⟨_, rfl, x, dx2, fs2, rfl, m2, mh2, x, W, rfl, hx2, fun l H3 s3 n3 hl => ?_⟩
  refine ⟨v, l, W.hs, rfl, hl, ok.nd, by omega, by omega, ?_⟩
  rcases hv2 with ⟨t, fw, tn, tq, rfl, ht2, hfw, tk, fin⟩ | ⟨q, hb⟩
  case inr =>
    refine .inr ⟨fun d H' ⟨s', th⟩ => q d H' ⟨s3.trans s', th⟩, ?_⟩
    rcases hb with ⟨t, ty, n⟩ | ⟨a, e, ha⟩ | ⟨a, e, ha⟩
    · exact .inl ⟨t, ⟨tyX_same s3 ty.1, ty.2⟩, n⟩
    · exact .inr (.inl ⟨a, e, s3 _ _ ha⟩)
    · exact .inr (.inr ⟨a, e, s3 _ _ ha⟩)
  refine .inl ⟨t, fw, rfl, ht2.same s3, fun h hh => (hfw h hh).1, fun p4 H4 s4 n4 hp4 => ?_⟩
  replace hp4 : RdK H4 p4 W.hs (frT tn tq) := hp4.congr fun h hh => (hfw h hh).2
  have s24 := s3.trans s4
  have hx4 := hx2.same s24
  refine ⟨_, rfl, _, rfl, x, p4, W, tn, tq, rfl, hx4, hp4, tk, ok.fz, h2, by omega, ok.nd, fun H5 s5 hbad => ?_, fun r H5 k s5 hr5 hk hall hmax => ?_⟩
  · -- a loose pair
    have hx5 := hx4.same s5
    refine ⟨_, rfl, rfl, _, rfl, ?_⟩
    refine ⟨_, rfl, x, W, rfl, hx5, ok, hbad, fun r H6 k s6 hr6 hk hn => ?_⟩
    obtain ⟨ki, kj, kn⟩ := mem_pairs.mp hk
    refine ⟨r, _, rfl, .of hr6, rfl, _, _, rfl, _, _, rfl, rfl, ?_⟩
    have hx6 := hx5.same s6
    refine ⟨_, rfl, _, rfl, x, W, k.1, rfl, hx6, ki, ok.nd, by omega, fun p7 o fl H7 up lo s7 n7 FO hp7 ho hfl => ?_⟩
    refine ⟨p7, _, rfl, .of hp7, rfl, _, _, rfl, _, _, rfl, rfl, ?_⟩
    have s47 := (s5.trans s6).trans s7
    have oz := off_sz ok ki FO
    -- want
    refine ⟨_, rfl, by show 2 ≤ sizeLine; decide, fun a1 na1 => ?_⟩
    have sa1 := same_new (o := .tup [.int fr, .int 1]) na1
    have ho1 := sa1 _ _ ho
    refine ⟨_, rfl, _, rfl, o, _, rfl, get_dh (.of ho1) kj, _, rfl, _, rfl, o, _, rfl, get_dh (.of ho1) ki, _, _, rfl, rfl, by show 2 ≤ sizeLine; decide, fun a2 na2 => ?_⟩
    have sa2 := same_new (o := .tup [.int (offF W k.1 up lo k.2 - offF W k.1 up lo k.1), .int 1]) na2
    have ht8 := ((hp4.same s47).same sa1).same sa2
    obtain ⟨bj, gj, fj⟩ := ht8.get kj
    obtain ⟨bi, gi, fi⟩ := ht8.get ki
    refine ⟨_, rfl, _, rfl, p4, _, rfl, gj, _, rfl, _, rfl, p4, _, rfl, gi, bj, bi, _, _, rfl, fj, fi, tk_sz tk kj, tk_sz tk ki, fun a3 H8 s8 n8 f8 => ?_⟩
    rw [less_low tk.1] at f8
    have one_low : ∀ v : Int, ((v, 1) : Int × Int) = lowF (v * tq) tq := fun v => by
      have := low_mul (a := v) (b := 1) (k := tq) (by decide) tk.1
      rw [Int.one_mul] at this
      rw [this, low_one]
    have z1 : (1 : Int).natAbs < 2 ^ 2000 := by show (1 : Nat) < 2 ^ 2000; exact Nat.one_lt_two_pow (by decide)
    have dz := sub_sz (oz k.2 kj) (oz k.1 ki)
    have tz := sub_sz (tk.2.2 k.2 kj) (tk.2.2 k.1 ki)
    refine ⟨a2, a3, (offF W k.1 up lo k.2 - offF W k.1 up lo k.1, 1), _, rfl, s8 _ _ upd_same, f8, ⟨pw dz, z1, by show (0 : Int) < 1; decide⟩, low_sz2 tk.1 tz (pw tk.2.1) (by decide), fun a4 H9 s9 n9 f9 => ?_⟩
    rw [one_low, less_low tk.1] at f9
    have w1 := wide_lt dz tk.2.1
    have w2 := sub_sz (n := 805) w1 (pw tz)
    refine ⟨a1, a4, (fr, 1), _, rfl, s9 _ _ (s8 _ _ (sa2 _ _ upd_same)), f9, ⟨pw fz, z1, by show (0 : Int) < 1; decide⟩, low_sz2 tk.1 w2 (pw tk.2.1) (by decide), fun a5 Ha s10 n10 f10 => ?_⟩
    rw [one_low, less_low tk.1] at f10
    generalize ez : lowF (fr * tq - ((offF W k.1 up lo k.2 - offF W k.1 up lo k.1) * tq - (tn k.2 - tn k.1))) tq = z at f10
    have zp : 0 < z.2 := by rw [← ez]; exact low_pos tk.1
    have zz : z.2.natAbs < 2 ^ 400 := by
      rw [← ez]
      exact (low_sz (n := 400) (a := 0) tk.1 (Nat.two_pow_pos _) tk.2.1).2.1 |> fun _ => (by
        obtain ⟨g, hg, _, e, _⟩ := low_parts (a := fr * tq - ((offF W k.1 up lo k.2 - offF W k.1 up lo k.1) * tq - (tn k.2 - tn k.1))) tk.1
        have hz := low_pos (a := fr * tq - ((offF W k.1 up lo k.2 - offF W k.1 up lo k.1) * tq - (tn k.2 - tn k.1))) tk.1
        have : tq.natAbs = g.natAbs * (lowF (fr * tq - ((offF W k.1 up lo k.2 - offF W k.1 up lo k.1) * tq - (tn k.2 - tn k.1))) tq).2.natAbs := by rw [← Int.natAbs_mul, ← e]
        have := Nat.le_mul_of_pos_left (lowF (fr * tq - ((offF W k.1 up lo k.2 - offF W k.1 up lo k.1) * tq - (tn k.2 - tn k.1))) tq).2.natAbs (show 0 < g.natAbs by omega)
        have := tk.2.1
        omega)
    refine ⟨_, rfl, a5, _, 0, _, rfl, rfl, .of f10, rfl, _, rfl, a5, _, 1, _, rfl, rfl, .of f10, rfl, _, _, rfl, rfl, wide_div zp zz (by decide) (by decide), _, _, rfl, rfl, _, _, rfl, ?_⟩
    have em : (if z.1 / z.2 + 1 > 0 then z.1 / z.2 + 1 else 0) = max 0 (z.1 / z.2 + 1) := max_eq 0 _
    rw [em]
    generalize emo : max 0 (z.1 / z.2 + 1) = more
    have s7a := (((sa1.trans sa2).trans s8).trans s9).trans s10
    have hoA := s7a _ _ ho
    have hflA := s7a _ _ hfl
    -- the moved offsets
    refine ⟨o, _, hoA, trivial, fun od => ⟨_, rfl, o, od, rfl, .inl ⟨_, upd_same, fun D nD => ?_⟩⟩⟩
    have lk : ∀ b u, Ha b = some u → u ≠ .dK (dh W.hs fun h => .int (offF W k.1 up lo h)) → (upd Ha o (.frz od (.dK (dh W.hs fun h => .int (offF W k.1 up lo h))))) b = some u := fun b u h n => locked hoA h n
    refine dcw (hs := W.hs) (fun H v h => ∃ b, v = .ref b ∧ FrAt H b (offF W k.1 up lo h + (if h ∈ frees W k.1 then more else 0), 1)) (dh_keys upd_same) ok.nd (by omega) (fun _ _ _ _ k ⟨b, e, h⟩ => ⟨b, e, k _ _ h⟩) ?_ nD ?_
    · intro h hh Hb Nx sb go
      refine ⟨rfl, _, rfl, _, rfl, _, rfl, o, _, rfl, get_dh (.inr ⟨od, sb _ _ upd_same⟩) hh, ?_⟩
      refine ⟨_, rfl, _, rfl, fl, _, rfl, .inl (.of (sb _ _ (lk _ _ hflA fun z => by cases z))), rfl, flat_hv _, _, rfl, ?_⟩
      rw [if_neg (by decide), inV_hv]
      by_cases c : h ∈ frees W k.1
      · rw [decide_eq_true c]
        refine ⟨_, rfl, _, _, rfl, rfl, by show 2 ≤ sizeLine; decide, fun b nb => go _ _ (same_new nb) ⟨b, rfl, ?_⟩⟩
        rw [if_pos c]
        exact upd_same
      · rw [decide_eq_false c]
        refine ⟨_, _, rfl, rfl, by show 2 ≤ sizeLine; decide, fun b nb => go _ _ (same_new nb) ⟨b, rfl, ?_⟩⟩
        rw [if_neg c]
        exact upd_same
    · intro u Hb sb hD hu
      refine ⟨sb _ _ upd_same, ?_⟩
      have sH := unlock sb hoA
      have nDH : Ha D = none := by
        have : D ≠ o := (ne_of_none upd_same nD).symm
        rw [upd_ne this] at nD
        exact nD
      have Do : D ≠ o := (ne_of_none hoA nDH).symm
      have hRd : RdK (upd Hb o (.dK (dh W.hs fun h => .int (offF W k.1 up lo h)))) D W.hs (fun h => (offF W k.1 up lo h + (if h ∈ frees W k.1 then more else 0), 1)) := by
        refine ⟨u, by rw [upd_ne Do]; exact hD, fun h hh => ?_⟩
        obtain ⟨b, e1, e2⟩ := hu h hh
        have : b ≠ o := ne_of e2 (sb _ _ upd_same) fun z => by cases z
        exact ⟨b, e1, (upd_ne this).trans e2⟩
      refine ⟨_, rfl, _, rfl, _, rfl, by show 3 ≤ sizeLine; decide, fun b nb => ?_⟩
      have sbb := same_new (o := .tup [.ref D, hv k.1, hv k.2]) nb
      have sAll := (s24.trans s47).trans (s7a.trans (sH.trans sbb))
      subst emo
      exact fin b D k.1 k.2 _ _ sAll upd_same (hRd.same sbb) (.loose hk hn FO ez.symm)
  · obtain ⟨ki, kj, kn⟩ := mem_pairs.mp hk
    have hx5 := hx4.same s5
    refine ⟨_, rfl, rfl, _, rfl, ?_⟩
    refine ⟨_, rfl, _, rfl, r, _, 0, _, rfl, rfl, .of hr5, rfl, x, W, k.1, rfl, hx5, ki, ok.nd, by omega, ok.h6, fun o H6 up lo s6 n6 FO ho => ?_⟩
    have hr6 := s6 _ _ hr5
    refine ⟨_, rfl, r, _, 0, _, rfl, rfl, .of hr6, rfl, _, rfl, r, _, 1, _, rfl, rfl, .of hr6, rfl, by show 3 ≤ sizeLine; decide, fun b nb => ?_⟩
    have sb := same_new (o := .tup [.ref o, hv k.1, hv k.2]) nb
    exact fin b o k.1 k.2 _ _ ((s24.trans (s5.trans s6)).trans sb) upd_same (ho.same sb) (.far hall hk hmax FO)
end
end K80

set_option maxHeartbeats 4000000
/-! break_clocks, as its callers want it -/
namespace K80
open PySem PySem.Spec L2 LamX NdefX
open PyProof.Rows hiding St
section
variable {P : Program} {w : World} {K : PySem.W.Frag} {mg : Str → Option Value} {base : Heap}
theorem spBC_len {f : Addr} {sp : Sp} {vs : List V} {H : Hp} {Q : VK} {E : XK} (h : spBC K f sp vs H Q E) : vs.length = 3 := by
  obtain ⟨x, W, far, rfl, _⟩ := h
  rfl
theorem ok_bc (T : Txt K mg) : CallOkS P w K mg base 8 7 "break_clocks" ["log", "work", "far"] [] (spBC K) ∧ CallOkS P w K mg base 8 7 "break_clocks" ["log", "work", "far"] [.int 0] (spBC K) := by
  obtain ⟨fd, F⟩ := T.says.def_ 37 rfl
  have run : ∀ (A : Around) (outer : List Env) (s : Shared) (H : Hp) (args : Args) (us : List Value) (vs : List V) (Q : VK) (E : XK) (f : Addr) (sp : Sp), Room 8 A → Env0 P w K mg base A outer s H → BindsTo s fd args ((["log", "work", "far"] : List Str).zip us) → Vals vs us → Cb P w K mg base (L2.CX P w) 7 f sp outer s H → spBC K f sp vs H Q E →
      codeAny (model P w) A (.call (.ref (He.ga K "break_clocks")) args) (CR (L2.CX P w) outer P w H s Q E) s := by
    intro A outer s H args us vs Q E f sp hr e0 hb r cb q
    obtain ⟨oc, od, dV, kV, doc, pm, an, cdv, ct, osl, e, lk, hcd, _, _⟩ := F.ex
    rw [e] at hb
    exact run_ofS (lk.trans (by rw [e])) hcd sc_break_clocks hr e0 hb r (spBC_len q) fun hr' => bc_body T hr' cb q
  have hm : mg "break_clocks" = some (.ref (He.ga K "break_clocks")) := T.glo "break_clocks" (mem_of 31 rfl)
  have b3 := F.binds1 (ps := (["log", "work", "far"] : List Str)) 3 1 (fun z => nomatch z) rfl (fun _ _ _ _ _ _ _ us its h1 h2 => match us, its, h1, h2 with | [_, _, _], [_], _, _ => ⟨_, rfl, rfl⟩)
  have b2 := F.binds1 (ps := (["log", "work", "far"] : List Str)) 2 0 (fun z => nomatch z) rfl (fun _ _ _ _ _ _ _ us its h1 h2 => match us, its, h1, h2 with | [_, _], [_], _, _ => ⟨_, rfl, rfl⟩)
  obtain ⟨d3, v3, b3⟩ := b3
  obtain ⟨d2, v2, b2⟩ := b2
  exact ⟨⟨_, fd, d3, hm, F.kp, b3, v3, fun _ _ _ _ _ _ q => spBC_len q, run⟩, ⟨_, fd, d2, hm, F.kp, b2, v2, fun _ _ _ _ _ _ q => spBC_len q, run⟩⟩
end
end K80

set_option maxHeartbeats 4000000
/-! the law's own fractions -/
namespace K80
open PySem PySem.Spec L2
open PyProof.Rows hiding St
abbrev s__law_cl_low : Stmt := (topS 55)
theorem sc__law_cl_low : FnScope ["_law_top", "_law_bottom", "_law_one", "_law_other"] ["_law_top", "_law_bottom"] (defScope s__law_cl_low) := ⟨rfl, rfl, rfl, by decide +kernel, rfl, by decide +kernel, by decide +kernel⟩
abbrev s__law_cl_less : Stmt := (topS 56)
theorem sc__law_cl_less : FnScope ["_law_one", "_law_other"] ["_law_one", "_law_other"] (defScope s__law_cl_less) := ⟨rfl, rfl, rfl, by decide +kernel, rfl, by decide +kernel, by decide +kernel⟩
abbrev s__law_cl_below : Stmt := (topS 57)
theorem sc__law_cl_below : FnScope ["_law_one", "_law_other"] ["_law_one", "_law_other"] (defScope s__law_cl_below) := ⟨rfl, rfl, rfl, by decide +kernel, rfl, by decide +kernel, by decide +kernel⟩
abbrev s__law_cl_apart : Stmt := (topS 68)
theorem sc__law_cl_apart : FnScope ["_law_offsets", "_law_taken", "_law_one", "_law_other", "_law_far"] ["_law_offsets", "_law_taken", "_law_one", "_law_other"] (defScope s__law_cl_apart) := ⟨rfl, rfl, rfl, by decide +kernel, rfl, by decide +kernel, by decide +kernel⟩
section
variable {P : Program} {w : World} {K : PySem.W.Frag} {mg : Str → Option Value} {base : Heap}
theorem ok_l_low (T : Txt K mg) : CallOk P w K mg base CX0 1 "_law_cl_low" ["_law_top", "_law_bottom"] [] spLowest := by
  refine def_ok (st := s__law_cl_low) T 44 38 rfl rfl sc__law_cl_low (fun _ _ _ _ _ _ us hl => match us, hl with | [_, _], _ => rfl) (fun vs H Q E h => ?_) (fun cdv f A outer s H vs Q E hr h => ?_)
  · obtain ⟨a, b, rfl, _⟩ := h
    rfl
  · obtain ⟨a, b, rfl, hb, hz, q⟩ := h
    refine ⟨_, PSs.nox (pss_cons (ps_par (i := 2) (j := 3) (by rfl) sc__law_cl_low.nd rfl rfl (by decide) rfl rfl (pa_cons (pe_callB (id := "abs") call_abs (by rfl) T.f_abs (by decide +kernel) (pa_cons (pv 0) pa_nil)) (pa_cons (pv 1) pa_nil)) (by rfl))
      (pss_cons (ps_while PassesOwn.never (pt_cmpR op_gt (pv 3) (pe_int) (nomark _))
      (pss_one (ps_par (i := 2) (j := 3) (by rfl) sc__law_cl_low.nd rfl rfl (by decide) rfl rfl (pa_cons (pv 3) (pa_cons (pe_op op_mod (pe_callTy (T := "int") call_int1 (by rfl) T.f_int (by decide +kernel) (pa_cons (pv 2) pa_nil)) (pv 3)) pa_nil)) (by rfl))))
      (pss_one (ps_ret (pe_tup (pa_cons (pe_op op_fdivW (pv 0) (pv 2)) (pa_cons (pe_op op_fdivW (pv 1) (pv 2)) pa_nil))))))), ?_⟩
    refine ⟨_, rfl, a, rfl, _, rfl, _, _, rfl, ?_⟩
    refine ⟨fun m σ H' => H' = H ∧ ∃ x y : Nat, σ = [some (.int a), some (.int b), some (.int (x : Int)), some (.int (y : Int))] ∧ y = m ∧ Nat.gcd x y = Nat.gcd a.natAbs b.natAbs, ⟨b.natAbs, rfl, a.natAbs, b.natAbs, ?_, rfl, rfl⟩, ?_⟩
    · have e1 : (if a < 0 then -a else a) = ((a.natAbs : Nat) : Int) := by split <;> omega
      have e2 : b = ((b.natAbs : Nat) : Int) := by omega
      rw [e1]
      show [some (V.int a), some (V.int b), some (V.int ((a.natAbs : Nat) : Int)), some (V.int b)] = _
      rw [← e2]
    · rintro m σ H' ⟨rfl, x, y, rfl, rfl, hg⟩
      refine ⟨_, rfl, _, 0, rfl, rfl, _, rfl, ?_⟩
      by_cases c : 0 < y
      · have e : decide ((0 : Int) < (y : Int)) = true := decide_eq_true (by omega)
        rw [e]
        refine ⟨_, fun _ _ h => h, ?_⟩
        refine ⟨_, rfl, _, rfl, .inl ⟨x, rfl, _, rfl, x, y, rfl, rfl, by omega, _, _, rfl, ?_⟩⟩
        exact ⟨x % y, Nat.mod_lt _ c, rfl, y, x % y, rfl, rfl, by rw [Nat.gcd_comm, ← Nat.gcd_rec, Nat.gcd_comm, ← hg, Nat.gcd_comm]⟩
      · have e : decide ((0 : Int) < (y : Int)) = false := decide_eq_false (by omega)
        rw [e]
        have y0 : y = 0 := by omega
        subst y0
        rw [Nat.gcd_zero_right] at hg
        subst hg
        have g0 : 0 < Nat.gcd a.natAbs b.natAbs := Nat.gcd_pos_of_pos_right _ (by omega)
        have g1 : ((Nat.gcd a.natAbs b.natAbs : Nat) : Int).natAbs < 2 ^ 8000 := by
          have := Nat.gcd_le_right a.natAbs (n := b.natAbs) (by omega)
          exact Nat.lt_of_le_of_lt this hz
        have cd : ∀ i, CDivW i ((Nat.gcd a.natAbs b.natAbs : Nat) : Int) := fun i => wide_div (by exact_mod_cast g0) g1 (by decide) (by decide)
        exact ⟨_, rfl, _, rfl, _, _, rfl, rfl, cd _, _, rfl, _, rfl, _, _, rfl, rfl, cd _, by show 2 ≤ sizeLine; decide, fun p np => q p _ (same_new np) np upd_same⟩
theorem ok_l_less (T : Txt K mg) : CallOk P w K mg base CX0 2 "_law_cl_less" ["_law_one", "_law_other"] [] spLess := by
  have C__law_cl_low : CallOk P w K mg base CX0 1 "_law_cl_low" ["_law_top", "_law_bottom"] [] spLowest := ok_l_low T
  refine def_ok (st := s__law_cl_less) T 45 39 rfl rfl sc__law_cl_less (fun _ _ _ _ _ _ us hl => match us, hl with | [_, _], _ => rfl) (fun vs H Q E h => ?_) (fun cdv f A outer s H vs Q E hr h => ?_)
  · obtain ⟨a, b, x, y, rfl, _⟩ := h
    rfl
  · obtain ⟨a, b, x, y, rfl, ha, hb, ⟨x1, x2, x3⟩, ⟨y1, y2, y3⟩, q⟩ := h
    refine ⟨_, PSs.nox (pss_one (ps_ret (pe_callT C__law_cl_low (hr.mono (by decide)) (by rfl) pass0 (pa_cons (pe_op op_sub (pe_op op_mulW (pe_ix (ix_tupK (K := K) rfl) (pv 0) (pe_int) (fun _ _ => rfl)) (pe_ix (ix_tupK (K := K) rfl) (pv 1) (pe_int) (fun _ _ => rfl))) (pe_op op_mulW (pe_ix (ix_tupK (K := K) rfl) (pv 1) (pe_int) (fun _ _ => rfl)) (pe_ix (ix_tupK (K := K) rfl) (pv 0) (pe_int) (fun _ _ => rfl)))) (pa_cons (pe_op op_mulW (pe_ix (ix_tupK (K := K) rfl) (pv 0) (pe_int) (fun _ _ => rfl)) (pe_ix (ix_tupK (K := K) rfl) (pv 1) (pe_int) (fun _ _ => rfl))) pa_nil))))), ?_⟩
    have ta := SqT.of (K := K) ha
    have tb := SqT.of (K := K) hb
    refine ⟨_, rfl, a, _, 0, _, rfl, rfl, ta, rfl, _, rfl, b, _, 1, _, rfl, rfl, tb, rfl, _, _, rfl, rfl, wide_mul x1 y2 (by decide) (by decide) (by decide), ?_⟩
    refine ⟨_, rfl, b, _, 0, _, rfl, rfl, tb, rfl, _, rfl, a, _, 1, _, rfl, rfl, ta, rfl, _, _, rfl, rfl, wide_mul y1 x2 (by decide) (by decide) (by decide), _, _, rfl, rfl, ?_⟩
    refine ⟨_, rfl, a, _, 1, _, rfl, rfl, ta, rfl, _, rfl, b, _, 1, _, rfl, rfl, tb, rfl, _, _, rfl, rfl, wide_mul x2 y2 (by decide) (by decide) (by decide), ?_⟩
    have z := wide_lt x2 y2
    exact ⟨_, _, rfl, Int.mul_pos x3 y3, Nat.lt_of_lt_of_le z (Nat.pow_le_pow_right (by decide) (by decide)), fun p H' => q p H'⟩
theorem ok_l_below (T : Txt K mg) : CallOk P w K mg base CX0 1 "_law_cl_below" ["_law_one", "_law_other"] [] spBelow := by
  refine def_ok (st := s__law_cl_below) T 46 40 rfl rfl sc__law_cl_below (fun _ _ _ _ _ _ us hl => match us, hl with | [_, _], _ => rfl) (fun vs H Q E h => ?_) (fun cdv f A outer s H vs Q E hr h => ?_)
  · obtain ⟨a, b, x, y, rfl, _⟩ := h
    rfl
  · obtain ⟨a, b, x, y, rfl, ha, hb, ⟨x1, x2, x3⟩, ⟨y1, y2, y3⟩, q⟩ := h
    refine ⟨_, PSs.nox (pss_one (ps_ret (pe_cmpR op_lt (pe_op op_mulW (pe_ix (ix_tupK (K := K) rfl) (pv 0) (pe_int) (fun _ _ => rfl)) (pe_ix (ix_tupK (K := K) rfl) (pv 1) (pe_int) (fun _ _ => rfl))) (pe_op op_mulW (pe_ix (ix_tupK (K := K) rfl) (pv 1) (pe_int) (fun _ _ => rfl)) (pe_ix (ix_tupK (K := K) rfl) (pv 0) (pe_int) (fun _ _ => rfl))) (nomark _)))), ?_⟩
    have ta := SqT.of (K := K) ha
    have tb := SqT.of (K := K) hb
    refine ⟨_, rfl, a, _, 0, _, rfl, rfl, ta, rfl, _, rfl, b, _, 1, _, rfl, rfl, tb, rfl, _, _, rfl, rfl, wide_mul x1 y2 (by decide) (by decide) (by decide), ?_⟩
    exact ⟨_, rfl, b, _, 0, _, rfl, rfl, tb, rfl, _, rfl, a, _, 1, _, rfl, rfl, ta, rfl, _, _, rfl, rfl, wide_mul y1 x2 (by decide) (by decide) (by decide), _, _, rfl, rfl, q⟩
def apF (x y u v : Int × Int) : Int × Int := absF (lessF (lessF x y) (lessF u v))
/-- lowest terms made of parts below 2 ^ n -/
def Lw (n : Nat) (z : Int × Int) : Prop := ∃ a b, 0 < b ∧ a.natAbs < 2 ^ n ∧ b.natAbs < 2 ^ n ∧ z = lowF a b
def spLApart (K : PySem.W.Frag) : Sp := fun vs H Q _ => ∃ (o t : Addr) (hs hs2 : List Nat) (fo ft : Nat → Int × Int) (i j : Nat), vs = [.ref o, .ref t, hv i, hv j] ∧ RdK H o hs fo ∧ RdK H t hs2 ft ∧ (i ∈ hs ∧ j ∈ hs ∧ i ∈ hs2 ∧ j ∈ hs2) ∧ (Sz 2000 (fo i) ∧ Sz 2000 (ft i) ∧ Sz 2000 (fo j) ∧ Sz 2000 (ft j)) ∧
  (Sz 2000 (lessF (fo i) (ft i)) ∧ Sz 2000 (lessF (fo j) (ft j))) ∧ ∀ p H', Same H H' → H p = none → FrAt H' p (apF (fo i) (ft i) (fo j) (ft j)) → Q (.ref p) H'
theorem ok_l_apart (T : Txt K mg) : CallOk P w K mg base CX0 3 "_law_cl_apart" ["_law_offsets", "_law_taken", "_law_one", "_law_other"] [] (spLApart K) := by
  have C__law_cl_less : CallOk P w K mg base CX0 2 "_law_cl_less" ["_law_one", "_law_other"] [] spLess := ok_l_less T
  refine def_ok (st := s__law_cl_apart) T 57 51 rfl rfl sc__law_cl_apart (fun _ _ _ _ _ _ us hl => match us, hl with | [_, _, _, _], _ => rfl) (fun vs H Q E h => ?_) (fun cdv f A outer s H vs Q E hr h => ?_)
  · obtain ⟨o, t, hs, hs2, fo, ft, i, j, rfl, _⟩ := h
    rfl
  · obtain ⟨o, t, hs, hs2, fo, ft, i, j, rfl, ho, ht, ⟨hi, hj, hi2, hj2⟩, ⟨z1, z2, z3, z4⟩, ⟨z5, z6⟩, q⟩ := h
    refine ⟨_, PSs.nox (pss_cons (ps_set (i := 4) sc__law_cl_apart.nd rfl (.inl rfl) (pe_callT C__law_cl_less (hr.mono (by decide)) (by rfl) pass0 (pa_cons (pe_callT C__law_cl_less (hr.mono (by decide)) (by rfl) pass0 (pa_cons (pe_dget (hu_of hr) (pv 0) (pv 2) (fun _ _ => rfl)) (pa_cons (pe_dget (hu_of hr) (pv 1) (pv 2) (fun _ _ => rfl)) pa_nil))) (pa_cons (pe_callT C__law_cl_less (hr.mono (by decide)) (by rfl) pass0 (pa_cons (pe_dget (hu_of hr) (pv 0) (pv 3) (fun _ _ => rfl)) (pa_cons (pe_dget (hu_of hr) (pv 1) (pv 3) (fun _ _ => rfl)) pa_nil))) pa_nil))))
      (pss_one (ps_ret (pe_tup (pa_cons (pe_callB (id := "abs") call_abs (by rfl) T.f_abs (by decide +kernel) (pa_cons (pe_ix (ix_tupK (K := K) rfl) (pv 4) (pe_int) (fun _ _ => rfl)) pa_nil)) (pa_cons (pe_ix (ix_tupK (K := K) rfl) (pv 4) (pe_int) (fun _ _ => rfl)) pa_nil)))))), ?_⟩
    obtain ⟨b1, g1, f1⟩ := ho.get hi
    obtain ⟨b2, g2, f2⟩ := ht.get hi2
    refine ⟨_, rfl, _, rfl, o, _, rfl, g1, _, rfl, _, rfl, t, _, rfl, g2, b1, b2, _, _, rfl, f1, f2, z1, z2, fun p6 H6 s6 n6 f6 => ?_⟩
    obtain ⟨b3, g3, f3⟩ := (ho.same s6).get hj
    obtain ⟨b4, g4, f4⟩ := (ht.same s6).get hj2
    refine ⟨_, rfl, _, rfl, o, _, rfl, g3, _, rfl, _, rfl, t, _, rfl, g4, b3, b4, _, _, rfl, f3, f4, z3, z4, fun p7 H7 s7 n7 f7 => ?_⟩
    refine ⟨p6, p7, _, _, rfl, s7 _ _ f6, f7, z5, z6, fun p8 H8 s8 n8 f8 => ?_⟩
    refine ⟨_, rfl, p8, _, 0, _, rfl, rfl, .of f8, rfl, _, rfl, _, rfl, p8, _, 1, _, rfl, rfl, .of f8, rfl, by show 2 ≤ sizeLine; decide, fun p np => ?_⟩
    have s18 := (s6.trans s7).trans s8
    exact q p _ (s18.trans (same_new np)) (s18.free np) upd_same
end
end K80

set_option maxHeartbeats 4000000
/-! the law's own shifts and rings -/
namespace K80
open PySem PySem.Spec L2
open PyProof.Rows hiding St
abbrev s__law_cl_direct : Stmt := (topS 63)
theorem sc__law_cl_direct : FnScope ["_law_roads", "_law_letters", "_law_found", "_law_one", "_law_sent", "_law_other", "_law_heard", "_law_least", "_law_most"] ["_law_roads", "_law_letters"] (defScope s__law_cl_direct) := ⟨rfl, rfl, rfl, by decide +kernel, rfl, by decide +kernel, by decide +kernel⟩

section
variable {P : Program} {w : World} {K : PySem.W.Frag} {mg : Str → Option Value} {base : Heap}
theorem ok_l_direct (T : Txt K mg) : CallOk P w K mg base CX0 1 "_law_cl_direct" ["_law_roads", "_law_letters"] [] spDS := by
  refine def_ok (st := s__law_cl_direct) T 52 46 rfl rfl sc__law_cl_direct (fun _ _ _ _ _ _ us hl => match us, hl with | [_, _], _ => rfl) (fun vs H Q E h => ?_) (fun cdv f A outer s H vs Q E hr h => ?_)
  · obtain ⟨r, a, ks, rd, ls, hs, rfl, _⟩ := h
    rfl
  · obtain ⟨r, a, ks, rd, ls, hs, rfl, hr1, ⟨xs, ha, hP⟩, hin, hkh, h6, q⟩ := h
    refine ⟨_, PSs.nox (pss_cons (ps_set (i := 2) sc__law_cl_direct.nd rfl (.inl rfl) (pe_dnewT))
      (pss_cons (ps_for PassesOwn.never rfl (pi_listK (K := K) rfl (pv 1)) (pg_tupK (K := K) rfl rfl (pgs_cons (pg_name (i := 3) sc__law_cl_direct.nd rfl (.inl rfl)) (pgs_cons (pg_name (i := 4) sc__law_cl_direct.nd rfl (.inl rfl)) (pgs_cons (pg_name (i := 5) sc__law_cl_direct.nd rfl (.inl rfl)) (pgs_cons (pg_name (i := 6) sc__law_cl_direct.nd rfl (.inl rfl)) pgs_nil)))))
      (pss_cons (ps_asg (pe_dget (hu_of hr) (pv 0) (pe_tup (pa_cons (pv 3) (pa_cons (pv 5) pa_nil))) (fun _ _ => rfl)) (pg_tupK (K := K) rfl rfl (pgs_cons (pg_name (i := 7) sc__law_cl_direct.nd rfl (.inl rfl)) (pgs_cons (pg_name (i := 8) sc__law_cl_direct.nd rfl (.inl rfl)) pgs_nil))))
      (Evl.pss_cut (ps_dput (hu_of hr) (pv 2) (pe_tup (pa_cons (pv 3) (pa_cons (pv 5) pa_nil))) (pe_callB (id := "min") (call_min2 rfl) (by rfl) T.f_min (by decide +kernel) (pa_cons (pe_op op_sub (pe_op op_sub (pv 6) (pv 4)) (pv 7)) (pa_cons (pe_dget2 (hu_of hr) (pv 2) (pe_tup (pa_cons (pv 3) (pa_cons (pv 5) pa_nil))) (pe_op op_sub (pe_op op_sub (pv 6) (pv 4)) (pv 7)) ⟨rfl, rfl, rfl, rfl⟩) pa_nil))) rfl)
      (pss_one (ps_if (pt_cmpR op_notN (pv 8) (pe_non) (nomark _)) (pss_one (ps_dput (hu_of hr) (pv 2) (pe_tup (pa_cons (pv 5) (pa_cons (pv 3) pa_nil))) (pe_callB (id := "min") (call_min2 rfl) (by rfl) T.f_min (by decide +kernel) (pa_cons (pe_op op_add (pe_op op_sub (pv 8) (pv 6)) (pv 4)) (pa_cons (pe_dget2 (hu_of hr) (pv 2) (pe_tup (pa_cons (pv 5) (pa_cons (pv 3) pa_nil))) (pe_op op_add (pe_op op_sub (pv 8) (pv 6)) (pv 4)) ⟨rfl, rfl, rfl, rfl⟩) pa_nil))) rfl)) pss_nil)))))
      (pss_one (ps_ret (pv 2))))), ?_⟩
    intro F nF
    have sF := same_new (o := .dT []) nF
    refine ⟨_, rfl, a, rfl, ⟨_, .of (sF _ _ ha)⟩, ?_⟩
    refine for_list (xs := xs) (fun i σ H' => (∃ x3 x4 x5 x6 x7 x8, σ = [some (.ref r), some (.ref a), some (.ref F), x3, x4, x5, x6, x7, x8]) ∧ SameB F H H' ∧ TbAt hs H' F ((ls.take i).foldl (fun d l => rowsF d (dRows rd l)) fun _ _ => none))
      ⟨⟨_, _, _, _, _, _, rfl⟩, sameB_of sF, [], upd_same, tb_nil⟩ ?_ ?_ ?_
    · intro i σ H' _ ⟨_, sm, _⟩
      exact .of (sm _ _ (ne_of_none ha nF) ha)
    · rintro i x σ H' hx ⟨⟨x3, x4, x5, x6, x7, x8, rfl⟩, sm, kvs, hF, tF⟩
      obtain ⟨l, hl, b, rfl, hb⟩ := pr_getL hP hx
      have hm : l ∈ ls := mem_of i hl
      have sr := sm.new nF
      obtain ⟨kh1, kh2⟩ := hkh _ (hin l hm)
      have eg : ∀ (o : Option Int) (x : Int), (o.map V.int).getD (.int x) = .int (o.getD x) := fun o x => by cases o <;> rfl
      refine ⟨b, Lt.v l, rfl, .of (sr _ _ hb), rfl, _, _, rfl, _, _, rfl, _, _, rfl, _, _, rfl, rfl, ?_⟩
      refine ⟨_, rfl, _, rfl, _, rfl, by show 2 ≤ sizeLine; decide, fun p np => ?_⟩
      have sp := same_new (o := .tup [hv l.one, hv l.other]) np
      obtain ⟨c, g, hc⟩ := RdKept.get (k := l.k) (b := p) (RdKept.same (sr.trans sp) hr1) upd_same (hin l hm)
      refine ⟨r, .ref c, rfl, g, c, _, rfl, .of hc, rfl, _, _, rfl, _, _, rfl, rfl, ?_⟩
      have hF1 := sp _ _ hF
      have sm1 := sm.trans (sameB_of sp)
      generalize upd H' p (.tup [hv l.one, hv l.other]) = G1 at hF1 sm1 hc
      have lz : ∀ {d : Dm} {kv : List (List Key × V)}, Tb hs (dI d) kv → kv.length < sizeLine := fun t => by
        have := tb_len t
        have : hs.length * hs.length ≤ 6 * 6 := Nat.mul_le_mul h6 h6
        exact small1000 (by omega)
      rw [foldl_take_succ hl]
      generalize (ls.take i).foldl (fun d l => rowsF d (dRows rd l)) (fun _ _ => none) = d0 at tF ⊢
      refine ⟨fun σ' H' => (∃ x9, σ' = [some (.ref r), some (.ref a), some (.ref F), some (hv l.one), some (.int l.sent), some (hv l.other), some (.int l.heard), some (.int (rd l.k).1), some (optI (rd l.k).2)] ∧ x9 = 0) ∧ SameB F H H' ∧ TbAt hs H' F (shf d0 l.one l.other (l.heard - l.sent - (rd l.k).1)), ?_, ?_⟩
      · refine ⟨_, rfl, _, rfl, _, _, rfl, rfl, _, rfl, _, _, rfl, rfl, _, rfl, F, rfl, .inr ⟨_, .of hF1⟩, _, rfl, _, rfl, by show 2 ≤ sizeLine; decide, fun q1 nq => ?_⟩
        have sq := same_new (o := .tup [hv l.one, hv l.other]) nq
        refine ⟨_, rfl, _, rfl, _, _, rfl, rfl, _, rfl, _, _, rfl, rfl, _, tb_get tF (sq _ _ hF1) upd_same, _, _, by rw [eg], ?_⟩
        rw [minO_eq]
        refine ⟨_, rfl, _, rfl, _, rfl, by show 2 ≤ sizeLine; decide, fun q2 nq2 => ?_⟩
        have sq2 := same_new (o := .tup [hv l.one, hv l.other]) nq2
        exact ⟨F, _, rfl, .inr ⟨kvs, pk l.one l.other, q2, sq2 _ _ (sq _ _ hF1), rfl, upd_same, lz tF, rfl⟩, ⟨0, rfl, rfl⟩, (sm1.trans ((sameB_of sq).trans (sameB_of sq2))).trans sameB_upd, _, upd_same, tb_shf tF kh1 kh2⟩
      · rintro σ' G2 ⟨⟨_, rfl, _⟩, sm2, kv2, hF2, tF2⟩
        refine ⟨_, rfl, rfl, _, rfl, ?_⟩
        unfold dRows rowsF
        cases em : (rd l.k).2 with
        | none => exact ⟨⟨_, _, _, _, _, _, rfl⟩, sm2, kv2, hF2, tF2⟩
        | some m =>
          refine ⟨_, rfl, _, rfl, _, _, rfl, rfl, _, rfl, _, _, rfl, rfl, _, rfl, F, rfl, .inr ⟨_, .of hF2⟩, _, rfl, _, rfl, by show 2 ≤ sizeLine; decide, fun q1 nq => ?_⟩
          have sq := same_new (o := .tup [hv l.other, hv l.one]) nq
          refine ⟨_, rfl, _, rfl, _, _, rfl, rfl, _, rfl, _, _, rfl, rfl, _, tb_get tF2 (sq _ _ hF2) upd_same, _, _, by rw [eg], ?_⟩
          rw [minO_eq]
          refine ⟨_, rfl, _, rfl, _, rfl, by show 2 ≤ sizeLine; decide, fun q2 nq2 => ?_⟩
          have sq2 := same_new (o := .tup [hv l.other, hv l.one]) nq2
          exact ⟨F, _, rfl, .inr ⟨kv2, pk l.other l.one, q2, sq2 _ _ (sq _ _ hF2), rfl, upd_same, lz tF2, rfl⟩, ⟨_, _, _, _, _, _, rfl⟩, (sm2.trans ((sameB_of sq).trans (sameB_of sq2))).trans sameB_upd, _, upd_same, tb_shf tF2 kh2 kh1⟩
    · rintro σ H2 ⟨⟨x3, x4, x5, x6, x7, x8, rfl⟩, sm, hT⟩
      rw [hP.length, List.take_length] at hT
      exact ⟨_, rfl, q F H2 (sm.new nF) nF hT⟩
end
end K80

set_option maxHeartbeats 4000000
/-! the law's own rings and bound -/
namespace K80
open PySem PySem.Spec L2
open PyProof.Rows hiding St
abbrev s__law_cl_round : Stmt := (topS 66)
theorem sc__law_cl_round : FnScope ["_law_ring", "_law_shifts", "_law_steps", "_law_pair"] ["_law_ring", "_law_shifts"] (defScope s__law_cl_round) := ⟨rfl, rfl, rfl, by decide +kernel, rfl, by decide +kernel, by decide +kernel⟩
abbrev s__law_cl_rings : Stmt := (topS 65)
theorem sc__law_cl_rings : FnScope ["_law_hands_here", "_law_found", "_law_level", "_law_longer", "_law_row", "_law_hand"] ["_law_hands_here"] (defScope s__law_cl_rings) := ⟨rfl, rfl, rfl, by decide +kernel, rfl, by decide +kernel, by decide +kernel⟩

section
variable {P : Program} {w : World} {K : PySem.W.Frag} {mg : Str → Option Value} {base : Heap}
theorem ok_l_round (T : Txt K mg) : CallOk P w K mg base CX0 1 "_law_cl_round" ["_law_ring", "_law_shifts"] [] spRS := by
  refine def_ok (st := s__law_cl_round) T 55 49 rfl rfl sc__law_cl_round (fun _ _ _ _ _ _ us hl => match us, hl with | [_, _], _ => rfl) (fun vs H Q E h => ?_) (fun cdv f A outer s H vs Q E hr h => ?_)
  · obtain ⟨b, F, r, hs, f, rfl, _⟩ := h
    rfl
  · obtain ⟨b, F, r, hs, f, rfl, hb0, h2, h6, hin, hg, q⟩ := h
    refine ⟨_, PSs.nox (pss_cons (ps_set (i := 0) sc__law_cl_round.nd rfl (.inl rfl) (pe_callTy (T := "list") (call_lstK (K := K) rfl) (by rfl) T.f_list (by decide +kernel) (pa_cons (pv 0) pa_nil)))
      (pss_cons (ps_setLc (i := 2) (own := [("_law_pair", 3)]) (by rfl) sc__law_cl_round.nd rfl rfl (sw_true rfl rfl rfl (by decide +kernel)) (pi_zip1 (by rfl) T.f_zip (pa_cons (pv 0) (pa_cons (pe_op op_cat (pe_slice (sl_listK (K := K) rfl) (pv 0) (po_some (pe_int)) po_none) (pe_slice (sl_listK (K := K) rfl) (pv 0) po_none (po_some (pe_int)))) pa_nil))) (blkOk_by (own := [("_law_pair", 3)]) (N := ["_law_ring", "_law_shifts", "_law_steps", "_law_pair"]) (sc := defScope (topS 66)) (by decide +kernel)) (fun _ _ _ _ _ => (pg_name (i := 3) sc__law_cl_round.nd rfl (.inl rfl))) (fun _ _ _ _ _ => pts_nil) (fun _ _ _ _ _ => (pe_dget1 (hu_of hr) (pv 1) (pv 3) ⟨rfl, rfl, rfl, rfl⟩)))
      (pss_one (ps_ret (pe_ifExp (pt_cmpR (op_inK (K := K) rfl) (pe_non) (pv 2) (by rfl)) (pe_non) (pe_callB (id := "sum") (cr_sumK (K := K) rfl rfl) (by rfl) T.f_sum (by decide +kernel) (pa_cons (pv 2) pa_nil))))))), ?_⟩
    have lm : (r.map hv).length = r.length := List.length_map ..
    refine ⟨_, rfl, b, r.map hv, rfl, hb0.sq, fun c nc => ?_⟩
    have s0 := same_new (o := .lst (r.map hv)) nc
    have hc : (upd H c (.lst (r.map hv))) c = some (.lst (r.map hv)) := upd_same
    have hg0 := hg.same s0
    generalize upd H c (.lst (r.map hv)) = H0 at s0 hc hg0 ⊢
    refine ⟨_, rfl, _, rfl, 1, rfl, c, r.map hv, rfl, .of hc, fun p1 n1 => ?_⟩
    rw [cut_drop1 _ (by omega)]
    have s1 := same_new (o := .lst ((r.map hv).drop 1)) n1
    refine ⟨_, rfl, 1, rfl, c, r.map hv, rfl, .of (s1 _ _ hc), fun p2 n2 => ?_⟩
    rw [show cutV (r.map hv) none (some 1) = (r.map hv).take 1 from cut_take _ 1 (by omega)]
    have s2 := same_new (o := .lst ((r.map hv).take 1)) n2
    refine ⟨p1, p2, (r.map hv).drop 1, (r.map hv).take 1, rfl, rfl, s2 _ _ upd_same, upd_same, ?_, fun p3 n3 => ?_⟩
    · rw [List.length_drop, List.length_take]
      exact Nat.le_trans (by omega : _ ≤ 12) (by decide)
    have s3 := same_new (o := .lst ((r.map hv).drop 1 ++ (r.map hv).take 1)) n3
    have e3 : (r.map hv).drop 1 ++ (r.map hv).take 1 = (r.drop 1 ++ r.take 1).map hv := by rw [List.map_append, List.map_drop, List.map_take]
    have sH := (s1.trans s2).trans s3
    have hp3 : (upd (upd (upd H0 p1 (.lst ((r.map hv).drop 1))) p2 (.lst ((r.map hv).take 1))) p3 (.lst ((r.map hv).drop 1 ++ (r.map hv).take 1))) p3 = some (.lst ((r.drop 1 ++ r.take 1).map hv)) := by rw [← e3]; exact upd_same
    refine ⟨c, p3, r.map hv, (r.drop 1 ++ r.take 1).map hv, rfl, .inl ⟨.of (sH _ _ hc), .of hp3, ?_⟩⟩
    have wk := wk_zipL (K := K) (.of (sH _ _ hc)) (.of hp3) (by rw [List.length_append, List.length_drop, List.length_take]; omega)
    clear hp3 s1 s2 s3
    show (fun J H1 => _) (ItZ (SqL K) c p3) (upd (upd (upd H0 p1 (.lst ((r.map hv).drop 1))) p2 (.lst ((r.map hv).take 1))) p3 (.lst ((r.map hv).drop 1 ++ (r.map hv).take 1)))
    generalize upd (upd (upd H0 p1 (.lst ((r.map hv).drop 1))) p2 (.lst ((r.map hv).take 1))) p3 (.lst ((r.map hv).drop 1 ++ (r.map hv).take 1)) = H1 at sH wk ⊢
    intro D nD
    refine lcw (us := r.zip (r.drop 1 ++ r.take 1)) IsPr (fun _ v u => v = optI u) (fun _ => true) (fun p => f p.1 p.2) wk (fun _ _ _ _ _ h => h) ?_ ?_ nD ?_
    · rw [List.length_zip]
      exact Nat.le_trans (Nat.min_le_left _ _) (Nat.le_trans h6 (by decide))
    · rintro i _ u H2 QF QT hu ⟨q1, rfl, hq⟩ s4 _ qt
      obtain ⟨i1, i2⟩ := zip_rot_mem hin (mem_of i hu)
      obtain ⟨id, o, go, eo⟩ := (hg0.same (sH.trans s4)).get i1 i2 hq
      refine ⟨rfl, _, rfl, F, rfl, id, _, rfl, o, go, ?_⟩
      rw [eo]
      exact qt rfl _ _ (.refl _) rfl
    · intro ys H2 s4 hD hP
      rw [filter_all] at hP
      have ey : ys = (rsteps f r).map optI := pr_eq optI hP
      subst ey
      refine ⟨_, rfl, D, _, rfl, .inl (.of hD), rfl, flat_opt _, _, rfl, ?_⟩
      have e0 : (if false = true then !inV .non ((rsteps f r).map optI) else inV .non ((rsteps f r).map optI)) = decide (none ∈ rsteps f r) := by
        rw [if_neg (by decide), inV_none]
      rw [e0]
      have fin := q H2 ((s0.trans sH).trans s4)
      unfold rsum at fin
      by_cases c : none ∈ rsteps f r
      · rw [decide_eq_true c]
        rw [if_pos c] at fin
        exact fin
      · rw [decide_eq_false c]
        rw [if_neg c] at fin
        rw [opt_ints c] at hD
        exact ⟨_, rfl, D, _, rfl, .of hD, fin⟩
theorem flat_take_succ1 {α β : Type} {F : α → List β} {us : List α} {i : Nat} {u : α} (h : us[i]? = some u) : (us.take (i + 1)).flatMap F = (us.take i).flatMap F ++ F u := by
  rw [take_succ' h, List.flatMap_append]
  simp
theorem ok_l_rings (T : Txt K mg) : CallOk P w K mg base CX0 1 "_law_cl_rings" ["_law_hands_here"] [] spAR := by
  refine def_ok (st := s__law_cl_rings) T 54 48 rfl rfl sc__law_cl_rings (fun _ _ _ _ _ _ us hl => match us, hl with | [_], _ => rfl) (fun vs H Q E h => ?_) (fun cdv f A outer s H vs Q E hr h => ?_)
  · obtain ⟨l, hs, rfl, _⟩ := h
    rfl
  · obtain ⟨l, hs, rfl, hl, h6, h5, q⟩ := h
    refine ⟨_, PSs.nox (pss_cons (ps_par (i := 1) (j := 2) (by rfl) sc__law_cl_rings.nd rfl rfl (by decide) rfl rfl (pa_cons (pe_lst pa_nil) (pa_cons (pe_lc (own := [("_law_hand", 5)]) (by rfl) sc__law_cl_rings.nd (pi_listK (K := K) rfl (pv 0)) (blkOk_by (own := [("_law_hand", 5)]) (N := ["_law_hands_here", "_law_found", "_law_level", "_law_longer", "_law_row", "_law_hand"]) (sc := defScope (topS 65)) (by decide +kernel)) (fun _ _ _ _ _ => (pg_name (i := 5) sc__law_cl_rings.nd rfl (.inl rfl))) (fun _ _ _ _ _ => pts_nil) (fun _ _ _ _ _ => (pe_tup (pa_cons (pv 5) pa_nil)))) pa_nil)) (by rfl))
      (pss_cons (ps_while PassesOwn.never (pt_cmpR (op_neDK (K := K) rfl (deep64 hr)) (pv 2) (pe_lst pa_nil) (nomark _))
      (pss_cons (ps_set (i := 3) sc__law_cl_rings.nd rfl (.inl rfl) (pe_lst pa_nil))
      (pss_cons (ps_for PassesOwn.never rfl (pi_listK (K := K) rfl (pv 2)) (pg_name (i := 4) sc__law_cl_rings.nd rfl (.inr rfl))
      (pss_one (ps_expr (pe_bmK (K := K) rfl PySem.F.plainAttrs_list PySem.F.slot_list_extend PySem.F.type_list_extend mt_extend (pv 3) (pa_cons (pe_lc (own := [("_law_hand", 5)]) (by rfl) sc__law_cl_rings.nd (pi_listK (K := K) rfl (pv 0)) (blkOk_by (own := [("_law_hand", 5)]) (N := ["_law_hands_here", "_law_found", "_law_level", "_law_longer", "_law_row", "_law_hand"]) (sc := defScope (topS 65)) (by decide +kernel)) (fun _ _ _ _ _ => (pg_name (i := 5) sc__law_cl_rings.nd rfl (.inl rfl))) (fun _ _ _ _ _ => pts_one (PW.pt (pw_and (pt_cmpR op_gt_str (pv 5) (pe_ix (ix_tupK (K := K) rfl) (pv 4) (pe_int) (fun _ _ => rfl)) (nomark _)) (pw_and1 (pt_cmpR (op_niK (K := K) rfl) (pv 5) (pv 4) (by rfl)))))) (fun _ _ _ _ _ => (pe_op (op_catK (K := K) rfl) (pv 4) (pe_tup (pa_cons (pv 5) pa_nil))))) pa_nil)))))
      (pss_cons (ps_expr (pe_bmK (K := K) rfl PySem.F.plainAttrs_list PySem.F.slot_list_extend PySem.F.type_list_extend mt_extend (pv 1) (pa_cons (pv 3) pa_nil)))
      (pss_one (ps_set (i := 2) sc__law_cl_rings.nd rfl (.inl rfl) (pv 3)))))))
      (pss_one (ps_ret (pv 1))))), ?_⟩
    refine ⟨by decide, fun F nF => ?_⟩
    have sF := same_new (o := .lst []) nF
    refine ⟨_, rfl, l, rfl, ⟨_, .of (sF _ _ hl)⟩, fun D nD => ?_⟩
    refine lcw (us := hs) (fun _ v u => v = hv u) (IsT fun r : List Nat => r.map hv) (fun _ => true) (fun h => [h]) (wk_hands (.of (sF _ _ hl))) (isT_keep _) (Nat.le_trans h5 (by decide)) ?_ nD ?_
    · rintro i _ u H2 QF QT hu rfl s2 _ qt
      exact ⟨rfl, _, rfl, by show 1 ≤ sizeLine; decide, fun p np => qt rfl _ _ (same_new np) ⟨p, rfl, upd_same⟩⟩
    · intro ys H2 s2 hD hP
      rw [filter_all] at hP
      have hF2 := s2 _ _ (upd_same (H := H) (a := F) (o := .lst []))
      refine ⟨_, _, rfl, fun m σ H' => ∃ k L x3 x4 x5, m + k = hs.length ∧ σ = [some (.ref l), some (.ref F), some (.ref L), x3, x4, x5] ∧ SameB F H H' ∧ L ≠ F ∧ RowsAt H' L (lvl hs k) ∧ RowsAt H' F (ringsN hs k), ⟨hs.length, 0, D, _, _, _, rfl, rfl, sameB_of (sF.trans s2), ?_, ⟨ys, hD, hP⟩, [], hF2, .nil⟩, ?_⟩
      · exact (ne_of_none upd_same nD).symm
      · rintro m σ H3 ⟨k, L, x3, x4, x5, ek, rfl, s3, nL, ⟨xl, hL, pL⟩, ⟨xf, hF, pF⟩⟩
        refine ⟨_, rfl, by show 0 ≤ sizeLine; decide, fun p np => ?_⟩
        have sp := same_new (o := .lst []) np
        refine ⟨.list ((lvl hs k).map dRow), .list [], .lst (.of (sp _ _ hL)) (dpAll_pr pL fun v r ⟨b, e, h⟩ => by rw [e]; exact dp_row (sp _ _ h)), .lst (.of upd_same) .nil, (sh_list (n := 1) fun d hd => ?_).shaped (by decide), (sh_list (n := 0) fun d hd => by cases hd).shaped (by decide), _, rfl, ?_⟩
        · obtain ⟨r, hr, rfl⟩ := List.mem_map.mp hd
          exact sh_row fun h hh => h6 h ((lvl_row hr).2.2 h hh)
        generalize upd H3 p (.lst []) = H4 at sp
        have s4 := s3.trans (sameB_of sp)
        have hl4 := s4 _ _ (ne_of_none hl nF) hl
        cases hv0 : lvl hs k with
        | nil =>
          have e : (!PyData.eqv (.list (([] : List (List Nat)).map dRow)) (.list [])) = false := by simp [PyData.eqv, PyData.eqvAll]
          rw [e]
          have hr := rings_of (by omega) hv0
          rw [hr] at pF
          exact ⟨_, rfl, q F H4 (s4.new nF) nF ⟨xf, sp _ _ hF, pr_mono pF fun v r h => isT_same _ _ _ _ _ sp h⟩⟩
        | cons r0 t0 =>
          have e : (!PyData.eqv (.list ((r0 :: t0).map dRow)) (.list [])) = true := by simp [PyData.eqv, PyData.eqvAll]
          rw [e]
          have k1 : k < hs.length := by
            rcases Nat.lt_or_ge k hs.length with h | h
            · exact h
            · have : k = hs.length := by omega
              rw [this, lvl_nil] at hv0
              cases hv0
          refine ⟨_, fun σ' H' h => ⟨m - 1, by omega, h⟩, ?_⟩
          refine ⟨by show 0 ≤ sizeLine; decide, fun G nG => ?_⟩
          have sG := same_new (o := .lst []) nG
          have nGF : G ≠ F := (ne_of_none (sp _ _ hF) nG).symm
          have rows1 : ∀ {i : Nat} {u : List Nat}, (lvl hs k)[i]? = some u → u.length = k + 1 := fun hu => (lvl_row (mem_of _ hu)).1
          have lens : ∀ i, i ≤ (lvl hs k).length → (((lvl hs k).take i).flatMap (fun row => (hs.filter (rowP row)).map fun h => row ++ [h])).length ≤ i * hs.length := by
            intro i
            induction i with
            | zero => intro _; simp
            | succ i ih =>
              intro hi
              have hu := List.getElem?_eq_getElem (l := lvl hs k) (i := i) (by omega)
              rw [flat_take_succ1 hu, List.length_append, List.length_map, Nat.succ_mul]
              have := ih (by omega)
              have := List.length_filter_le (rowP (lvl hs k)[i]) hs
              omega
          have lk5 : (lvl hs k).length * hs.length ≤ 15625 := by
            have h1 := lvl_len (hs := hs) k
            have h2 : hs.length ^ (k + 1) ≤ 5 ^ (k + 1) := Nat.pow_le_pow_left h5 _
            have h3 : 5 ^ (k + 1) ≤ 5 ^ 5 := Nat.pow_le_pow_right (by decide) (by omega)
            have h4 : (lvl hs k).length * hs.length ≤ 5 ^ 5 * 5 := Nat.mul_le_mul (by omega) h5
            exact Nat.le_trans h4 (by decide)
          refine ⟨_, rfl, L, rfl, ⟨_, .of (sG _ _ (sp _ _ hL))⟩, ?_⟩
          refine for_wk (Hb := H4) (us := lvl hs k) (A := IsT fun r : List Nat => r.map hv) (wk_list (.of (sp _ _ hL)) (pr_mono pL fun v r h => isT_same _ _ _ _ _ sp h) (isT_same _)) (fun i σ H' => Same H4 H' ∧ (∃ x4 x5, σ = [some (.ref l), some (.ref F), some (.ref L), some (.ref G), x4, x5]) ∧ RowsAt H' G (((lvl hs k).take i).flatMap fun row => (hs.filter (rowP row)).map fun h => row ++ [h]))
            ⟨sG, ⟨_, _, rfl⟩, [], upd_same, .nil⟩ (fun _ _ _ h => h.1) ?_ ?_
          · rintro i row _ σ H0 H5 hu ⟨s0, ⟨x4, x5, rfl⟩, xg, hG, pG⟩ s05 ⟨b, rfl, hb⟩
            have s5 := s0.trans s05
            have hu1 := rows1 hu
            refine ⟨_, rfl, .inl ⟨rfl, _, .of (s05 _ _ hG)⟩, _, rfl, l, rfl, ⟨_, .of (s5 _ _ hl4)⟩, fun D2 nD2 => ?_⟩
            refine lcw (us := hs) (fun _ v u => v = hv u) (IsT fun r : List Nat => r.map hv) (rowP row) (fun h => row ++ [h]) (wk_hands (.of (s5 _ _ hl4))) (isT_keep _) (Nat.le_trans h5 (by decide)) ?_ nD2 ?_
            · rintro j _ w H6 QF QT hw rfl s6 qf qt
              have hb6 := s6 _ _ hb
              have ha : atI (row.map hv) (0 : Int) = some (hv (row.headD 0)) := by
                cases row with
                | nil => cases hu1
                | cons a r => exact atI_nat (j := 0) rfl
              refine ⟨rfl, _, rfl, _, rfl, b, row.map hv, 0, _, rfl, rfl, .of hb6, ha, _, _, rfl, rfl, _, rfl, ?_⟩
              have e1 : decide ((nm (row.headD 0)).cps.toList < (nm w).cps.toList) = decide (row.headD 0 < w) := by simp only [nm_lt]
              rw [e1]
              by_cases c1 : row.headD 0 < w
              · rw [decide_eq_true c1]
                refine ⟨_, rfl, _, rfl, b, row.map hv, rfl, .inr (.of hb6), rfl, flat_hv row, _, rfl, ?_⟩
                rw [if_pos rfl, inV_hv]
                have hp : rowP row w = !decide (w ∈ row) := by unfold rowP; rw [decide_eq_true c1, Bool.true_and]
                rw [← hp]
                cases hc : rowP row w with
                | false => exact qf hc _ (.refl _)
                | true =>
                  refine ⟨_, rfl, _, rfl, by show 1 ≤ sizeLine; decide, fun p1 n1 => ?_⟩
                  have s7 := same_new (o := .tup [hv w]) n1
                  have ule : row.length ≤ 5 := by omega
                  refine ⟨b, p1, row.map hv, [hv w], rfl, rfl, .of (s7 _ _ hb6), .of upd_same, Nat.le_trans (by show (row.map hv).length + 1 ≤ 6; rw [List.length_map]; omega) (by decide : 6 ≤ sizeLine), fun z => ?_, (fun _ z => nomatch z), fun _ _ p2 n2 => qt hc _ _ (s7.trans (same_new n2)) ⟨p2, rfl, ?_⟩⟩
                  · cases row with
                    | nil => cases hu1
                    | cons a r => cases z
                  · rw [upd_same]
                    show some (HO.tup (row.map hv ++ [hv w])) = some (HO.tup ((row ++ [w]).map hv))
                    rw [List.map_append]
                    rfl
              · rw [decide_eq_false c1]
                have hc : rowP row w = false := by unfold rowP; rw [decide_eq_false c1, Bool.false_and]
                exact qf hc _ (.refl _)
            · intro ys H6 s6 hD6 hP6
              have hG6 := s6 _ _ (s05 _ _ hG)
              have hi : i < (lvl hs k).length := (List.getElem?_eq_some_iff.mp hu).1
              have lenr : xg.length + ys.length ≤ sizeLine := by
                rw [pG.length, hP6.length]
                have h1 := lens i (by omega)
                rw [List.length_map]
                have h2 := List.length_filter_le (rowP row) hs
                have h3 : (i + 1) * hs.length ≤ (lvl hs k).length * hs.length := Nat.mul_le_mul_right _ hi
                rw [Nat.succ_mul] at h3
                exact Nat.le_trans (by omega : _ ≤ 15625) (by decide)
              refine ⟨G, D2, xg, ys, rfl, rfl, hG6, hD6, lenr, same_mut (s5.trans s6) nG, ⟨_, _, rfl⟩, ?_⟩
              have kt : KeepT H6 (upd H6 G (.lst (xg ++ ys))) := keepT_upd hG6 fun _ z => by cases z
              rw [flat_take_succ1 hu]
              exact ⟨_, upd_same, pr_app (pr_mono pG fun v r h => isT_keep _ _ _ _ _ kt (isT_same _ _ _ _ _ (s05.trans s6) h)) (pr_mono hP6 fun v r h => isT_keep _ _ _ _ _ kt h)⟩
          · rintro σ H5 ⟨s5, ⟨x4, x5, rfl⟩, xg, hG, pG⟩
            rw [List.take_length] at pG
            have h4 : (lvl hs k).flatMap (fun row => (hs.filter (rowP row)).map fun h => row ++ [h]) = lvl hs (k + 1) := rfl
            rw [h4] at pG
            have hF5 := s5 _ _ (sp _ _ hF)
            have lenr : xf.length + xg.length ≤ sizeLine := by
              rw [pF.length, pG.length]
              have h1 : ∀ n, n ≤ 5 → (ringsN hs n).length ≤ n * 15625 := by
                intro n
                induction n with
                | zero => intro _; exact Nat.le_refl _
                | succ n ih =>
                  intro hn
                  rw [ringsN_succ, List.length_append]
                  have h1 : (lvl hs (n + 1)).length ≤ hs.length ^ (n + 2) := lvl_len (hs := hs) (n + 1)
                  have h2 : hs.length ^ (n + 2) ≤ 5 ^ (n + 2) := Nat.pow_le_pow_left h5 _
                  have h3 : 5 ^ (n + 2) ≤ 5 ^ 6 := Nat.pow_le_pow_right (by decide) (by omega)
                  have h4 : (5 : Nat) ^ 6 = 15625 := by decide
                  have := ih (by omega)
                  rw [Nat.succ_mul]
                  omega
              have h2 := h1 (k + 1) (by omega)
              rw [ringsN_succ, List.length_append] at h2
              have h3 : (k + 1) * 15625 ≤ 5 * 15625 := Nat.mul_le_mul_right _ (by omega)
              exact Nat.le_trans (Nat.le_trans h2 h3) (by decide)
            have kt : KeepT H5 (upd H5 F (.lst (xf ++ xg))) := keepT_upd hF5 fun _ z => by cases z
            refine ⟨_, rfl, .inl ⟨rfl, _, .of hF5⟩, _, rfl, F, G, xf, xg, rfl, rfl, hF5, hG, lenr, ?_⟩
            refine ⟨_, rfl, k + 1, G, _, _, _, by omega, rfl, (s4.trans (sameB_of s5)).trans sameB_upd, nGF, ⟨xg, by rw [upd_ne nGF]; exact hG, pr_mono pG fun v r h => isT_keep _ _ _ _ _ kt h⟩, ?_⟩
            rw [ringsN_succ]
            exact ⟨_, upd_same, pr_app (pr_mono pF fun v r h => isT_keep _ _ _ _ _ kt (isT_same _ _ _ _ _ (sp.trans s5) h)) (pr_mono pG fun v r h => isT_keep _ _ _ _ _ kt h)⟩
end
end K80

set_option maxHeartbeats 4000000
/-! the law's own bound and least sums -/
namespace K80
open PySem PySem.Spec L2
open PyProof.Rows hiding St
abbrev s__law_cl_bound : Stmt := (topS 72)
theorem sc__law_cl_bound : FnScope ["_law_hands_here", "_law_fars", "_law_best", "_law_ring", "_law_many"] ["_law_hands_here", "_law_fars"] (defScope s__law_cl_bound) := ⟨rfl, rfl, rfl, by decide +kernel, rfl, by decide +kernel, by decide +kernel⟩
abbrev s__law_cl_fars : Stmt := (topS 64)
theorem sc__law_cl_fars : FnScope ["_law_hands_here", "_law_direct", "_law_found", "_law_start_here", "_law_level", "_law_longer", "_law_row", "_law_far", "_law_hand", "_law_more"] ["_law_hands_here", "_law_direct"] (defScope s__law_cl_fars) := ⟨rfl, rfl, rfl, by decide +kernel, rfl, by decide +kernel, by decide +kernel⟩
section
variable {P : Program} {w : World} {K : PySem.W.Frag} {mg : Str → Option Value} {base : Heap}
/-- the sums round all rings are told and not great -/
def RgOk' (hs : List Nat) (f : Dm) : Prop := ∀ r ∈ rings hs, ∀ v, rsum f r = some v → v.natAbs < 2 ^ 403
def bestF (hs : List Nat) (f : Dm) : Option (List Nat) := (rings hs).foldl (bestStep f) none
def spLBd : Sp := fun vs H Q _ => ∃ (l F : Addr) (hs : List Nat) (f : Dm), vs = [.ref l, .ref F] ∧ H l = some (.lst (hs.map hv)) ∧ (∀ h ∈ hs, h < 6) ∧ 2 ≤ hs.length ∧ hs.length ≤ 5 ∧ hs.Nodup ∧ GetAt hs H F f ∧ RgOk' hs f ∧
  (∀ H', Same H H' → (∃ r ∈ rings hs, rsum f r = none) → Q .non H') ∧
  ∀ p H' r v, Same H H' → H p = none → (∀ r ∈ rings hs, ∃ v, rsum f r = some v) → bestF hs f = some r → rsum f r = some v → FrAt H' p (lowF v r.length) → Q (.ref p) H'
theorem ok_l_bound (T : Txt K mg) : CallOk P w K mg base CX0 2 "_law_cl_bound" ["_law_hands_here", "_law_fars"] [] spLBd := by
  have C__law_cl_rings : CallOk P w K mg base CX0 1 "_law_cl_rings" ["_law_hands_here"] [] spAR := ok_l_rings T
  have C__law_cl_round : CallOk P w K mg base CX0 1 "_law_cl_round" ["_law_ring", "_law_shifts"] [] spRS := ok_l_round T
  have C__law_cl_low : CallOk P w K mg base CX0 1 "_law_cl_low" ["_law_top", "_law_bottom"] [] spLowest := ok_l_low T
  refine def_ok (st := s__law_cl_bound) T 61 55 rfl rfl sc__law_cl_bound (fun _ _ _ _ _ _ us hl => match us, hl with | [_, _], _ => rfl) (fun vs H Q E h => ?_) (fun cdv f A outer s H vs Q E hr h => ?_)
  · obtain ⟨l, F, hs, f, rfl, _⟩ := h
    rfl
  · obtain ⟨l, F, hs, f, rfl, hl, h6, h2, h5, hd, hg, hz, q0, q⟩ := h
    refine ⟨_, PSs.nox (pss_cons (ps_set (i := 2) sc__law_cl_bound.nd rfl (.inl rfl) (pe_non))
      (pss_cons (ps_for PassesOwn.never rfl (pi_listK (K := K) rfl (pe_callT C__law_cl_rings (hr.mono (by decide)) (by rfl) pass0 (pa_cons (pv 0) pa_nil))) (pg_name (i := 3) sc__law_cl_bound.nd rfl (.inl rfl))
      (pss_cons (ps_set (i := 4) sc__law_cl_bound.nd rfl (.inl rfl) (pe_callT C__law_cl_round (hr.mono (by decide)) (by rfl) pass0 (pa_cons (pv 3) (pa_cons (pv 1) pa_nil))))
      (pss_cons (ps_if (pt_cmpR op_isN (pv 4) (pe_non) (nomark _)) (pss_one (ps_ret (pe_non))) pss_nil)
      (pss_one (ps_set (i := 2) sc__law_cl_bound.nd rfl (.inl rfl) (pe_ifExp (PW.pt (pw_or (pt_cmpR op_isN (pv 2) (pe_non) (nomark _)) (pw_or1 (pt_cmpR op_lt (pe_op op_mulW (pe_ix (ix_tupK (K := K) rfl) (pv 2) (pe_int) (fun _ _ => rfl)) (pe_callB (id := "len") (call_lenK (K := K) rfl) (by rfl) T.f_len (by decide +kernel) (pa_cons (pv 3) pa_nil))) (pe_op op_mulW (pv 4) (pe_ix (ix_tupK (K := K) rfl) (pv 2) (pe_int) (fun _ _ => rfl))) (nomark _))))) (pe_tup (pa_cons (pv 4) (pa_cons (pe_callB (id := "len") (call_lenK (K := K) rfl) (by rfl) T.f_len (by decide +kernel) (pa_cons (pv 3) pa_nil)) pa_nil))) (pv 2)))))))
      (pss_one (ps_ret (pe_callT C__law_cl_low (hr.mono (by decide)) (by rfl) pass0 (pa_cons (pe_ix (ix_tupK (K := K) rfl) (pv 2) (pe_int) (fun _ _ => rfl)) (pa_cons (pe_ix (ix_tupK (K := K) rfl) (pv 2) (pe_int) (fun _ _ => rfl)) pa_nil))))))), ?_⟩
    refine ⟨_, rfl, l, hs, rfl, hl, h6, h5, fun R H1 s1 n1 hR => ?_⟩
    obtain ⟨xr, hRl, hRp⟩ := hR
    refine ⟨R, rfl, ⟨_, .of hRl⟩, ?_⟩
    refine for_wk (Hb := H1) (wk_list (.of hRl) hRp (isT_same _)) (fun i σ H' => Same H1 H' ∧ (∀ r ∈ (rings hs).take i, ∃ v, rsum f r = some v) ∧ ∃ b u v, σ = [some (.ref l), some (.ref F), some b, u, v] ∧ match ((rings hs).take i).foldl (bestStep f) none with
        | none => b = .non
        | some r => ∃ a y, b = .ref a ∧ rsum f r = some y ∧ r ∈ rings hs ∧ H' a = some (.tup [.int y, .int (r.length : Int)])) ⟨.refl _, fun r h => by simp at h, _, _, _, rfl, rfl⟩ (fun _ _ _ h => h.1) ?_ ?_
    · rintro i ring _ σ H0 H6 hu ⟨s6, hall, b, u, v, rfl, hb⟩ s06 ⟨rg, rfl, hrg⟩
      have s6' := s6.trans s06
      have hm := mem_of i hu
      obtain ⟨r2, r6, rnd, rin⟩ := ring_row hm
      refine ⟨_, rfl, _, rfl, rg, F, ring, hs, f, rfl, .inr hrg, r2, by omega, rin, (hg.same s1).same s6', fun H7 s7 => ?_⟩
      cases rs : rsum f ring with
      | none => exact ⟨_, rfl, rfl, _, rfl, q0 _ ((s1.trans s6').trans s7) ⟨ring, hm, rs⟩⟩
      | some y =>
        refine ⟨_, rfl, rfl, _, rfl, ?_⟩
        have hrg7 := s7 _ _ hrg
        have step : ∀ r ∈ (rings hs).take (i + 1), ∃ v, rsum f r = some v := by
          intro r hr
          rw [take_succ' hu] at hr
          rcases List.mem_append.mp hr with z | z
          · exact hall r z
          · simp at z; subst z; exact ⟨y, rs⟩
        have put : ∀ (H8 : Hp), Same H7 H8 → (((rings hs).take i).foldl (bestStep f) none = none ∨ ∃ bst yb, ((rings hs).take i).foldl (bestStep f) none = some bst ∧ rsum f bst = some yb ∧ yb * (ring.length : Int) < y * (bst.length : Int)) → ((rings hs).take (i + 1)).foldl (bestStep f) none = some ring := by
          intro H8 s8 h
          rw [foldl_take_succ hu]
          rcases h with h | ⟨bst, yb, h, hy, lt⟩
          · rw [h]; rfl
          · rw [h]
            show (if (rsum f bst).getD 0 * (ring.length : Int) < (rsum f ring).getD 0 * (bst.length : Int) then some ring else some bst) = some ring
            rw [hy, rs]
            exact if_pos lt
        cases e : ((rings hs).take i).foldl (bestStep f) none with
        | none =>
          rw [e] at hb
          subst hb
          refine ⟨_, rfl, rfl, _, rfl, _, rfl, _, rfl, _, _, rfl, .inr ⟨_, .of hrg7, rfl⟩, by show 2 ≤ sizeLine; decide, fun p np => ?_⟩
          have sp := same_new (o := .tup [.int y, .int ((ring.map hv).length : Nat)]) np
          refine ⟨s6'.trans (s7.trans sp), step, _, _, _, rfl, ?_⟩
          rw [put H7 (.refl _) (.inl e)]
          refine ⟨p, y, rfl, rs, hm, ?_⟩
          rw [upd_same, List.length_map]
          rfl
        | some bst =>
          rw [e] at hb
          obtain ⟨ba, yb, rfl, hyb, hbm, hba⟩ := hb
          obtain ⟨b2, b6, _, _⟩ := ring_row hbm
          have hba7 := s7 _ _ (s06 _ _ hba)
          have lz : ∀ n : Nat, n ≤ 6 → ((n : Int)).natAbs < 2 ^ 3 := fun n hn => by
            show n < 2 ^ 3
            omega
          refine ⟨_, rfl, rfl, _, rfl, ?_⟩
          refine ⟨_, rfl, ba, _, 0, _, rfl, rfl, .of hba7, rfl, _, rfl, _, _, rfl, .inr ⟨_, .of hrg7, rfl⟩, _, _, rfl, rfl, wide_mul (hz bst hbm yb hyb) (lz _ (by rw [List.length_map]; omega)) (by decide) (by decide) (by decide), ?_⟩
          refine ⟨_, rfl, _, rfl, ba, _, 1, _, rfl, rfl, .of hba7, rfl, _, _, rfl, rfl, wide_mul (hz ring hm y rs) (lz _ (by omega)) (by decide) (by decide) (by decide), _, _, rfl, rfl, _, rfl, ?_⟩
          rw [List.length_map]
          show if decide (yb * (ring.length : Int) < y * (bst.length : Int)) = true then _ else _
          by_cases c : yb * (ring.length : Int) < y * (bst.length : Int)
          · rw [decide_eq_true c]
            refine ⟨_, rfl, _, rfl, _, _, rfl, .inr ⟨_, .of hrg7, rfl⟩, by show 2 ≤ sizeLine; decide, fun p np => ?_⟩
            have sp := same_new (o := .tup [.int y, .int ((ring.map hv).length : Nat)]) np
            refine ⟨s6'.trans (s7.trans sp), step, _, _, _, rfl, ?_⟩
            rw [put H7 (.refl _) (.inr ⟨bst, yb, e, hyb, c⟩)]
            refine ⟨p, y, rfl, rs, hm, ?_⟩
            rw [upd_same, List.length_map]
            rfl
          · rw [decide_eq_false c]
            refine ⟨_, rfl, s6'.trans s7, step, _, _, _, rfl, ?_⟩
            have e2 : ((rings hs).take (i + 1)).foldl (bestStep f) none = some bst := by
              rw [foldl_take_succ hu, e]
              show (if (rsum f bst).getD 0 * (ring.length : Int) < (rsum f ring).getD 0 * (bst.length : Int) then some ring else some bst) = some bst
              rw [hyb, rs]
              exact if_neg c
            rw [e2]
            exact ⟨ba, yb, rfl, hyb, hbm, hba7⟩
    · rintro σ H6 ⟨s6, hall, b, u, v, rfl, hb⟩
      rw [List.take_length] at hall hb
      have eb : (rings hs).foldl (bestStep f) none = bestF hs f := rfl
      rw [eb] at hb
      cases e : bestF hs f with
      | none =>
        have key : ∀ (l : List (List Nat)) (b : Option (List Nat)), l ≠ [] → l.foldl (bestStep f) b ≠ none := by
          intro l
          induction l with
          | nil => intro b h; exact (h rfl).elim
          | cons y l ih =>
            intro b _ h
            cases l with
            | nil =>
              unfold bestStep at h
              cases b with
              | none => cases h
              | some b =>
                simp only [List.foldl_cons, List.foldl_nil] at h
                split at h <;> cases h
            | cons z l => exact ih _ (by simp) h
        exact (key _ _ (rings_ne h2 hd) e).elim
      | some r =>
        rw [e] at hb
        obtain ⟨a, y, rfl, hy, hrm, har⟩ := hb
        obtain ⟨r2, r6, _, _⟩ := ring_row hrm
        refine ⟨_, rfl, a, _, 0, _, rfl, rfl, .of har, rfl, _, rfl, a, _, 1, _, rfl, rfl, .of har, rfl, _, _, rfl, by omega, ?_, fun p H7 s7 n7 f7 => ?_⟩
        · have : r.length ≤ 6 := by omega
          exact Nat.lt_of_le_of_lt this (by decide)
        · exact q p H7 r y ((s1.trans s6).trans s7) ((s1.trans s6).free n7) hall e hy f7
/-- the law's own walks from s -/
def rowX (hs : List Nat) (d : Dm) (e : List Nat × Int) : List (List Nat × Int) := (hs.filter fun h => !decide (h ∈ e.1)).flatMap fun h => match d (e.1.getLastD 0) h with | none => [] | some x => [(e.1 ++ [h], e.2 + x)]
def lvF (hs : List Nat) (d : Dm) (s : Nat) : Nat → List (List Nat × Int)
  | 0 => [([s], 0)]
  | k + 1 => (lvF hs d s k).flatMap (rowX hs d)
def putF (s : Nat) (f : Dm) (e : List Nat × Int) : Dm := shf f s (e.1.getLastD 0) e.2
def runF (hs : List Nat) (d : Dm) (s : Nat) (f : Dm) : Nat → Dm
  | 0 => f
  | k + 1 => (lvF hs d s (k + 1)).foldl (putF s) (runF hs d s f k)
def farL (hs : List Nat) (d : Dm) : Dm := hs.foldl (fun f s => runF hs d s f hs.length) fun _ _ => none
def ptF (hs : List Nat) (e : List Nat × Int) (h : Nat) : Bool := !decide (h ∈ e.1)
def stepX (d : Dm) (e : List Nat × Int) (h : Nat) : List (List Nat × Int) := match d (e.1.getLastD 0) h with | none => [] | some x => [(e.1 ++ [h], e.2 + x)]
theorem rowX_eq (hs : List Nat) (d : Dm) (e : List Nat × Int) : rowX hs d e = (hs.filter (ptF hs e)).flatMap (stepX d e) := rfl
theorem flat_len {α β : Type} {F : α → List β} {n : Nat} : ∀ {l : List α}, (∀ x ∈ l, (F x).length ≤ n) → (l.flatMap F).length ≤ l.length * n
  | [], _ => by simp
  | x :: l, h => by
    rw [List.flatMap_cons, List.length_append, List.length_cons, Nat.succ_mul]
    have h1 := h x List.mem_cons_self
    have h2 := flat_len (l := l) fun y hy => h y (List.mem_cons_of_mem _ hy)
    omega
theorem stepX_len {d : Dm} {e : List Nat × Int} {h : Nat} : (stepX d e h).length ≤ 1 := by
  unfold stepX
  split <;> simp
theorem rowX_len {hs : List Nat} {d : Dm} {e : List Nat × Int} : (rowX hs d e).length ≤ hs.length := by
  rw [rowX_eq]
  have h1 := flat_len (F := stepX d e) (n := 1) (l := hs.filter (ptF hs e)) fun x _ => stepX_len
  have h2 := List.length_filter_le (ptF hs e) hs
  omega
theorem lvF_len {hs : List Nat} {d : Dm} {s : Nat} : ∀ k, (lvF hs d s k).length ≤ hs.length ^ k
  | 0 => by simp [lvF]
  | k + 1 => by
    have h1 := flat_len (F := rowX hs d) (n := hs.length) (l := lvF hs d s k) fun x _ => rowX_len
    have h2 := lvF_len (hs := hs) (d := d) (s := s) k
    show ((lvF hs d s k).flatMap (rowX hs d)).length ≤ _
    rw [Nat.pow_succ]
    exact Nat.le_trans h1 (Nat.mul_le_mul_right _ h2)
theorem mem_stepX {d : Dm} {e e' : List Nat × Int} {h : Nat} (m : e' ∈ stepX d e h) : ∃ x, d (e.1.getLastD 0) h = some x ∧ e' = (e.1 ++ [h], e.2 + x) := by
  unfold stepX at m
  split at m
  · cases m
  · next x hx => exact ⟨x, hx, by simpa using m⟩
theorem lvF_row {hs : List Nat} {d : Dm} {s : Nat} (hs1 : s ∈ hs) : ∀ {k : Nat} {e : List Nat × Int}, e ∈ lvF hs d s k → e.1.length = k + 1 ∧ e.1.Nodup ∧ ∀ h ∈ e.1, h ∈ hs
  | 0, e, h => by
    have : e = ([s], 0) := by simpa [lvF] using h
    subst this
    exact ⟨rfl, by simp, fun x hx => by simp at hx; exact hx ▸ hs1⟩
  | k + 1, e, h => by
    obtain ⟨e0, h0, h1⟩ := List.mem_flatMap.mp h
    rw [rowX_eq] at h1
    obtain ⟨x, hx, h2⟩ := List.mem_flatMap.mp h1
    obtain ⟨y, _, rfl⟩ := mem_stepX h2
    obtain ⟨hx1, hx2⟩ := List.mem_filter.mp hx
    obtain ⟨a1, a2, a3⟩ := lvF_row hs1 h0
    have hn : x ∉ e0.1 := by
      intro h
      unfold ptF at hx2
      rw [decide_eq_true h] at hx2
      cases hx2
    refine ⟨by simp [a1], ?_, fun z hz => ?_⟩
    · refine List.nodup_append.mpr ⟨a2, by simp, fun a ha b hb => ?_⟩
      simp at hb
      subst hb
      intro e
      exact hn (e ▸ ha)
    · rcases List.mem_append.mp hz with h | h
      · exact a3 z h
      · simp at h
        exact h ▸ hx1
theorem lvF_nil {hs : List Nat} {d : Dm} {s : Nat} (h1 : s ∈ hs) : lvF hs d s hs.length = [] := by
  cases h : lvF hs d s hs.length with
  | nil => rfl
  | cons r t =>
    have hr : r ∈ lvF hs d s hs.length := by rw [h]; exact List.mem_cons_self
    obtain ⟨l1, l2, l3⟩ := lvF_row h1 hr
    have := nodup_le l2 l3
    omega
theorem runF_stay {hs : List Nat} {d : Dm} {s : Nat} {f : Dm} {k : Nat} (h : lvF hs d s k = []) : ∀ j, runF hs d s f (k + j) = runF hs d s f k ∧ lvF hs d s (k + j) = []
  | 0 => ⟨rfl, h⟩
  | j + 1 => by
    obtain ⟨a, b⟩ := runF_stay (f := f) h j
    have e : lvF hs d s (k + (j + 1)) = [] := by
      show (lvF hs d s (k + j)).flatMap (rowX hs d) = []
      rw [b]
      rfl
    refine ⟨?_, e⟩
    show (lvF hs d s (k + (j + 1))).foldl (putF s) (runF hs d s f (k + j)) = _
    rw [e, a]
    rfl
/-- an entry: a row of hands and its sum -/
def IsE (H : Hp) (v : V) (e : List Nat × Int) : Prop := ∃ b c, v = .ref b ∧ H b = some (.tup [.ref c, .int e.2]) ∧ H c = some (.tup (e.1.map hv))
theorem isE_keep (H H' : Hp) (v : V) (u : List Nat × Int) (k : KeepT H H') (h : IsE H v u) : IsE H' v u := let ⟨b, c, e, z, y⟩ := h; ⟨b, c, e, k b _ z, k c _ y⟩
def LvAt (H : Hp) (p : Addr) (es : List (List Nat × Int)) : Prop := ∃ xs, H p = some (.lst xs) ∧ Paired (IsE H) xs es
abbrev dEnt (e : List Nat × Int) : PyData := .tuple [dRow e.1, .int e.2]
theorem dp_ent {H : Hp} {v : V} {e : List Nat × Int} (h : IsE H v e) : Dp K H v (dEnt e) := by
  obtain ⟨b, c, rfl, h1, h2⟩ := h
  exact .tup (.of h1) (.cons (dp_row h2) (.cons (.int _) .nil))
theorem sh_ent {e : List Nat × Int} (h6 : ∀ h ∈ e.1, h < 6) : Sh 2 (dEnt e) := sh_tup fun d hd => by
  simp only [List.mem_cons, List.not_mem_nil, or_false] at hd
  rcases hd with rfl | rfl
  · exact sh_row h6
  · exact sh_int.mono (by decide)
theorem keepT_sameB {F : Addr} {H H' : Hp} {o : HO} (s : SameB F H H') (h : H F = some o) (n : ∀ xs, o ≠ .tup xs) : KeepT H H' := fun b xs e => s b _ (ne_of e h fun z => n xs z.symm) e
theorem last_at {r : List Nat} (h : r ≠ []) : atI (r.map hv) (-1 : Int) = some (hv (r.getLastD 0)) := by
  rcases List.eq_nil_or_concat r with e | ⟨l, x, rfl⟩
  · exact (h e).elim
  · rw [List.concat_eq_append, List.map_append]
    have : (l ++ [x]).getLastD 0 = x := by simp
    rw [this]
    exact atI_last _ _
def spLF : Sp := fun vs H Q _ => ∃ (l a : Addr) (hs : List Nat) (d : Dm), vs = [.ref l, .ref a] ∧ H l = some (.lst (hs.map hv)) ∧ (∀ h ∈ hs, h < 6) ∧ hs.length ≤ 5 ∧ hs.Nodup ∧ TbAt hs H a d ∧
  ∀ p H', Same H H' → H p = none → TbAt hs H' p (farL hs d) → Q (.ref p) H'
theorem ok_l_fars (T : Txt K mg) : CallOk P w K mg base CX0 1 "_law_cl_fars" ["_law_hands_here", "_law_direct"] [] spLF := by
  refine def_ok (st := s__law_cl_fars) T 53 47 rfl rfl sc__law_cl_fars (fun _ _ _ _ _ _ us hl => match us, hl with | [_, _], _ => rfl) (fun vs H Q E h => ?_) (fun cdv f A outer s H vs Q E hr h => ?_)
  · obtain ⟨l, a, hs, d, rfl, _⟩ := h
    rfl
  · obtain ⟨l, a, hs, d, rfl, hl, h6, h5, hd, hT, q⟩ := h
    refine ⟨_, PSs.nox (pss_cons (ps_set (i := 2) sc__law_cl_fars.nd rfl (.inl rfl) (pe_dnewT))
      (pss_cons (ps_for PassesOwn.never rfl (pi_listK (K := K) rfl (pv 0)) (pg_name (i := 3) sc__law_cl_fars.nd rfl (.inl rfl))
      (pss_cons (ps_set (i := 4) sc__law_cl_fars.nd rfl (.inl rfl) (pe_lst (pa_cons (pe_tup (pa_cons (pe_tup (pa_cons (pv 3) pa_nil)) (pa_cons (pe_int) pa_nil))) pa_nil)))
      (pss_one (ps_while PassesOwn.never (pt_cmpR (op_neDK (K := K) rfl (deep64 hr)) (pv 4) (pe_lst pa_nil) (nomark _))
      (pss_cons (ps_set (i := 5) sc__law_cl_fars.nd rfl (.inl rfl) (pe_lst pa_nil))
      (pss_cons (ps_for PassesOwn.never rfl (pi_listK (K := K) rfl (pv 4)) (pg_tupK (K := K) rfl rfl (pgs_cons (pg_name (i := 6) sc__law_cl_fars.nd rfl (.inr rfl)) (pgs_cons (pg_name (i := 7) sc__law_cl_fars.nd rfl (.inl rfl)) pgs_nil)))
      (pss_one (ps_for PassesOwn.never rfl (pi_listK (K := K) rfl (pe_lc (own := [("_law_hand", 8)]) (by rfl) sc__law_cl_fars.nd (pi_listK (K := K) rfl (pv 0)) (blkOk_by (own := [("_law_hand", 8)]) (N := ["_law_hands_here", "_law_direct", "_law_found", "_law_start_here", "_law_level", "_law_longer", "_law_row", "_law_far", "_law_hand", "_law_more"]) (sc := defScope (topS 64)) (by decide +kernel)) (fun _ _ _ _ _ => (pg_name (i := 8) sc__law_cl_fars.nd rfl (.inl rfl))) (fun _ _ _ _ _ => pts_one (pt_cmpR (op_niK (K := K) rfl) (pv 8) (pv 6) (by rfl))) (fun _ _ _ _ _ => (pv 8)))) (pg_name (i := 8) sc__law_cl_fars.nd rfl (.inl rfl))
      (pss_one (ps_if (pt_cmp (pc_din (hu_of hr) (pe_tup (pa_cons (pe_ix (ix_tupK (K := K) rfl) (pv 6) (pe_un un_neg (pe_int)) (fun _ _ => rfl)) (pa_cons (pv 8) pa_nil))) (pv 1))) (pss_cons (ps_set (i := 9) sc__law_cl_fars.nd rfl (.inl rfl) (pe_op op_add (pv 7) (pe_dget (hu_of hr) (pv 1) (pe_tup (pa_cons (pe_ix (ix_tupK (K := K) rfl) (pv 6) (pe_un un_neg (pe_int)) (fun _ _ => rfl)) (pa_cons (pv 8) pa_nil))) (fun _ _ => rfl))))
      (pss_cons (ps_expr (pe_bmK (K := K) rfl PySem.F.plainAttrs_list PySem.F.slot_list_append PySem.F.type_list_append mt_append (pv 5) (pa_cons (pe_tup (pa_cons (pe_op (op_catK (K := K) rfl) (pv 6) (pe_tup (pa_cons (pv 8) pa_nil))) (pa_cons (pv 9) pa_nil))) pa_nil)))
      (pss_one (ps_dput (hu_of hr) (pv 2) (pe_tup (pa_cons (pv 3) (pa_cons (pv 8) pa_nil))) (pe_callB (id := "min") (call_min2 rfl) (by rfl) T.f_min (by decide +kernel) (pa_cons (pv 9) (pa_cons (pe_dget2 (hu_of hr) (pv 2) (pe_tup (pa_cons (pv 3) (pa_cons (pv 8) pa_nil))) (pv 9) ⟨rfl, rfl, rfl, rfl⟩) pa_nil))) rfl)))) pss_nil)))))
      (pss_one (ps_set (i := 4) sc__law_cl_fars.nd rfl (.inl rfl) (pv 5)))))))))
      (pss_one (ps_ret (pv 2))))), ?_⟩
    intro F nF
    have sF := same_new (o := .dT []) nF
    refine ⟨_, rfl, l, rfl, ⟨_, .of (sF _ _ hl)⟩, ?_⟩
    refine for_list (xs := hs.map hv) (fun i σ H' => (∃ x3 x4 x5 x6 x7 x8 x9, σ = [some (.ref l), some (.ref a), some (.ref F), x3, x4, x5, x6, x7, x8, x9]) ∧ SameB F H H' ∧ TbAt hs H' F ((hs.take i).foldl (fun f s => runF hs d s f hs.length) fun _ _ => none))
      ⟨⟨_, _, _, _, _, _, _, rfl⟩, sameB_of sF, [], upd_same, tb_nil⟩ ?_ ?_ ?_
    · intro i σ H' _ ⟨_, sm, _⟩
      exact .of (sm _ _ (ne_of_none hl nF) hl)
    · rintro i x σ H1 hx ⟨⟨x3, x4, x5, x6, x7, x8, x9, rfl⟩, s1, hT1⟩
      obtain ⟨s0, hs0, rfl⟩ := pr_getL (pr_map hv hs) hx
      have hs1 : s0 ∈ hs := mem_of i hs0
      rw [foldl_take_succ hs0]
      generalize (hs.take i).foldl (fun f s => runF hs d s f hs.length) (fun _ _ => none) = f0 at hT1 ⊢
      refine ⟨_, rfl, by show 1 ≤ sizeLine; decide, fun p1 n1 => ⟨by show 2 ≤ sizeLine; decide, fun p2 n2 => ⟨by show 1 ≤ sizeLine; decide, fun L nL => ?_⟩⟩⟩
      have t1 := same_new (o := .tup [hv s0]) n1
      have t2 := same_new (o := .tup [.ref p1, .int 0]) n2
      have t3 := same_new (o := .lst [.ref p2]) nL
      have nF1 : H1 F ≠ none := by
        obtain ⟨kv, e, _⟩ := hT1
        rw [e]
        simp
      have nLF : L ≠ F := by
        intro e
        subst e
        obtain ⟨kv, e1, _⟩ := hT1
        rw [t2 _ _ (t1 _ _ e1)] at nL
        cases nL
      have hL : LvAt (upd (upd (upd H1 p1 (.tup [hv s0])) p2 (.tup [.ref p1, .int 0])) L (.lst [.ref p2])) L (lvF hs d s0 0) :=
        ⟨_, upd_same, .cons ⟨p2, p1, rfl, t3 _ _ upd_same, t3 _ _ (t2 _ _ upd_same)⟩ .nil⟩
      have tt := (t1.trans t2).trans t3
      clear t1 t2 t3
      generalize upd (upd (upd H1 p1 (.tup [hv s0])) p2 (.tup [.ref p1, .int 0])) L (.lst [.ref p2]) = H2 at hL tt
      have hT2 : TbAt hs H2 F f0 := by
        obtain ⟨kv, e, t⟩ := hT1
        exact ⟨kv, tt _ _ e, t⟩
      have s2 := s1.trans (sameB_of tt)
      refine ⟨fun m σ H' => ∃ k L x5 x6 x7 x8 x9, m + k = hs.length ∧ σ = [some (.ref l), some (.ref a), some (.ref F), some (hv s0), some (.ref L), x5, x6, x7, x8, x9] ∧ SameB F H H' ∧ L ≠ F ∧ LvAt H' L (lvF hs d s0 k) ∧ TbAt hs H' F (runF hs d s0 f0 k), ⟨hs.length, 0, L, _, _, _, _, _, rfl, rfl, s2, nLF, hL, hT2⟩, ?_⟩
      rintro m σ H3 ⟨k, L, x5, x6, x7, x8, x9, ek, rfl, s3, nL, ⟨xl, hL, pL⟩, kvs, hF, tF⟩
      refine ⟨_, rfl, by show 0 ≤ sizeLine; decide, fun p np => ?_⟩
      have sp := same_new (o := .lst []) np
      refine ⟨.list ((lvF hs d s0 k).map dEnt), .list [], .lst (.of (sp _ _ hL)) (dpAll_pr pL fun v r h => dp_ent (isE_keep _ _ _ _ (keepT_same sp) h)), .lst (.of upd_same) .nil, (sh_list (n := 2) fun d hd => ?_).shaped (by decide), (sh_list (n := 0) fun d hd => by cases hd).shaped (by decide), _, rfl, ?_⟩
      · obtain ⟨r, hr, rfl⟩ := List.mem_map.mp hd
        exact sh_ent fun h hh => h6 h ((lvF_row hs1 hr).2.2 h hh)
      have hL4 := sp _ _ hL
      have hF4 := sp _ _ hF
      have pL4 : Paired (IsE (upd H3 p (.lst []))) xl (lvF hs d s0 k) := pr_mono pL fun v r h => isE_keep _ _ _ _ (keepT_same sp) h
      generalize upd H3 p (.lst []) = H4 at sp hL4 hF4 pL4
      have s4 := s3.trans (sameB_of sp)
      have hl4 := s4 _ _ (ne_of_none hl nF) hl
      cases hv0 : lvF hs d s0 k with
      | nil =>
        have e : (!PyData.eqv (.list (([] : List (List Nat × Int)).map dEnt)) (.list [])) = false := by simp [PyData.eqv, PyData.eqvAll]
        rw [e]
        have hr := (runF_stay (f := f0) hv0 m).1
        rw [show k + m = hs.length by omega] at hr
        exact ⟨⟨_, _, _, _, _, _, _, rfl⟩, s4, kvs, hF4, by rw [hr]; exact tF⟩
      | cons r0 t0 =>
        have e : (!PyData.eqv (.list ((r0 :: t0).map dEnt)) (.list [])) = true := by simp [PyData.eqv, PyData.eqvAll]
        rw [e]
        have k1 : k < hs.length := by
          rcases Nat.lt_or_ge k hs.length with h | h
          · exact h
          · have : k = hs.length := by omega
            rw [this, lvF_nil hs1] at hv0
            cases hv0
        refine ⟨_, fun σ' H' h => ⟨m - 1, by omega, h⟩, ?_⟩
        refine ⟨by show 0 ≤ sizeLine; decide, fun G nG => ?_⟩
        have sG := same_new (o := .lst []) nG
        have nGF : G ≠ F := (ne_of_none hF4 nG).symm
        have lk5 : (lvF hs d s0 k).length * hs.length ≤ 15625 := by
          have h1 := lvF_len (hs := hs) (d := d) (s := s0) k
          have h2 : hs.length ^ k ≤ 5 ^ k := Nat.pow_le_pow_left h5 _
          have h3 : 5 ^ k ≤ 5 ^ 5 := Nat.pow_le_pow_right (by decide) (by omega)
          have h4 : (lvF hs d s0 k).length * hs.length ≤ 5 ^ 5 * 5 := Nat.mul_le_mul (by omega) h5
          exact Nat.le_trans h4 (by decide)
        refine ⟨_, rfl, L, rfl, ⟨_, .of (sG _ _ hL4)⟩, ?_⟩
        refine for_list (xs := xl) (fun i σ H' => (∃ x6 x7 x8 x9, σ = [some (.ref l), some (.ref a), some (.ref F), some (hv s0), some (.ref L), some (.ref G), x6, x7, x8, x9]) ∧ SameB F H4 H' ∧ LvAt H' G (((lvF hs d s0 k).take i).flatMap (rowX hs d)) ∧ TbAt hs H' F ((((lvF hs d s0 k).take i).flatMap (rowX hs d)).foldl (putF s0) (runF hs d s0 f0 k)))
          ⟨⟨_, _, _, _, rfl⟩, sameB_of sG, ⟨[], upd_same, .nil⟩, kvs, sG _ _ hF4, tF⟩ ?_ ?_ ?_
        · intro i σ H' _ ⟨_, sm, _⟩
          exact .of (sm _ _ nL hL4)
        · rintro i x σ H5 hx ⟨⟨x6, x7, x8, x9, rfl⟩, s5, ⟨xg, hG, pG⟩, hT5⟩
          obtain ⟨en, hen, hE⟩ := pr_getL pL4 hx
          obtain ⟨b, c, rfl, hb, hc⟩ := hE
          have sk : KeepT H4 H5 := keepT_sameB s5 hF4 fun _ z => by cases z
          have hc5 := sk _ _ hc
          have hl5 := s5 _ _ (ne_of_none hl nF) hl4
          have hm := mem_of i hen
          obtain ⟨el, en1, eh⟩ := lvF_row hs1 hm
          have ene : en.1 ≠ [] := by
            intro z
            rw [z] at el
            cases el
          have elast : en.1.getLastD 0 ∈ hs := eh _ (by
            rcases List.eq_nil_or_concat en.1 with e | ⟨l, x, e⟩
            · exact (ene e).elim
            · rw [e, List.concat_eq_append]
              simp)
          refine ⟨b, [.ref c, .int en.2], rfl, .of (sk _ _ hb), rfl, _, _, rfl, _, _, rfl, rfl, ?_⟩
          refine ⟨_, rfl, l, rfl, ⟨_, .of hl5⟩, fun D2 nD2 => ?_⟩
          refine lcw (us := hs) (fun _ v u => v = hv u) (fun _ v u => v = hv u) (ptF hs en) (fun h => h) (wk_hands (.of hl5)) (fun _ _ _ _ _ h => h) (Nat.le_trans h5 (by decide)) ?_ nD2 ?_
          · rintro j _ w H6 QF QT hw rfl s6 qf qt
            refine ⟨rfl, _, rfl, _, rfl, c, en.1.map hv, rfl, .inr (.of (s6 _ _ hc5)), rfl, flat_hv en.1, _, rfl, ?_⟩
            rw [if_pos rfl, inV_hv]
            have hp : ptF hs en w = !decide (w ∈ en.1) := rfl
            rw [← hp]
            cases hc : ptF hs en w with
            | false => exact qf hc _ (.refl _)
            | true => exact ⟨_, rfl, qt hc _ _ (.refl _) rfl⟩
          · intro ys H6 s6 hD6 hP6
            rw [List.map_id'] at hP6
            have ey := pr_eq hv hP6
            subst ey
            obtain ⟨kv5, hF5, tF5⟩ := hT5
            have nDF : D2 ≠ F := (ne_of_none hF5 nD2).symm
            have nDG : D2 ≠ G := (ne_of_none hG nD2).symm
            have hi : i < (lvF hs d s0 k).length := (List.getElem?_eq_some_iff.mp hen).1
            have lpre : (((lvF hs d s0 k).take i).flatMap (rowX hs d)).length ≤ i * hs.length := by
              have h1 := flat_len (F := rowX hs d) (n := hs.length) (l := (lvF hs d s0 k).take i) fun x _ => rowX_len
              rw [List.length_take] at h1
              exact Nat.le_trans h1 (Nat.mul_le_mul_right _ (Nat.min_le_left _ _))
            have lall : i * hs.length + hs.length ≤ 15625 := by
              have h3 : (i + 1) * hs.length ≤ (lvF hs d s0 k).length * hs.length := Nat.mul_le_mul_right _ hi
              rw [Nat.succ_mul] at h3
              omega
            rw [flat_take_succ1 hen, rowX_eq]
            generalize ((lvF hs d s0 k).take i).flatMap (rowX hs d) = pre at pG tF5 lpre ⊢
            generalize runF hs d s0 f0 k = fk at tF5 ⊢
            have lrs : (hs.filter (ptF hs en)).length ≤ hs.length := List.length_filter_le ..
            have hrs : ∀ h ∈ hs.filter (ptF hs en), h ∈ hs := fun h hh => (List.mem_filter.mp hh).1
            generalize hs.filter (ptF hs en) = rs at hD6 lrs hrs ⊢
            refine ⟨D2, rfl, ⟨_, .of hD6⟩, ?_⟩
            refine for_list (xs := rs.map hv) (fun j σ H' => (∃ x8 x9, σ = [some (.ref l), some (.ref a), some (.ref F), some (hv s0), some (.ref L), some (.ref G), some (.ref c), some (.int en.2), x8, x9]) ∧ SameB F H4 H' ∧ H' D2 = some (.lst (rs.map hv)) ∧ LvAt H' G (pre ++ (rs.take j).flatMap (stepX d en)) ∧ TbAt hs H' F ((pre ++ (rs.take j).flatMap (stepX d en)).foldl (putF s0) fk))
              ⟨⟨_, _, rfl⟩, s5.trans (sameB_of s6), hD6, ?_, ?_⟩ ?_ ?_ ?_
            · rw [List.take_zero, List.flatMap_nil, List.append_nil]
              exact ⟨xg, s6 _ _ hG, pr_mono pG fun v r h => isE_keep _ _ _ _ (keepT_same s6) h⟩
            · rw [List.take_zero, List.flatMap_nil, List.append_nil]
              exact ⟨kv5, s6 _ _ hF5, tF5⟩
            · intro j σ H' _ ⟨_, _, hD, _⟩
              exact .of hD
            · rintro j x σ H7 hx2 ⟨⟨x8, x9, rfl⟩, s7, hD7, ⟨xg7, hG7, pG7⟩, kv7, hF7, tF7⟩
              obtain ⟨h, hh, rfl⟩ := pr_getL (pr_map hv rs) hx2
              have hmh := hrs h (mem_of j hh)
              have hj : j < rs.length := (List.getElem?_eq_some_iff.mp hh).1
              have lcur : (pre ++ (rs.take j).flatMap (stepX d en)).length < 15625 := by
                have h1 := flat_len (F := stepX d en) (n := 1) (l := rs.take j) fun x _ => stepX_len
                rw [List.length_take] at h1
                rw [List.length_append]
                omega
              rw [flat_take_succ1 hh, ← List.append_assoc]
              generalize pre ++ (rs.take j).flatMap (stepX d en) = cur at pG7 tF7 lcur ⊢
              have sk7 : KeepT H4 H7 := keepT_sameB s7 hF4 fun _ z => by cases z
              have hc7 := sk7 _ _ hc
              obtain ⟨kva, ha, ta⟩ := hT
              have naF : a ≠ F := ne_of_none ha nF
              have ha7 := (s4.trans s7) _ _ naF ha
              refine ⟨_, rfl, 1, rfl, c, en.1.map hv, -1, _, rfl, rfl, .of hc7, last_at ene, _, rfl, by show 2 ≤ sizeLine; decide, fun p np => ?_⟩
              have sp7 := same_new (o := .tup [hv (en.1.getLastD 0), hv h]) np
              refine ⟨_, rfl, a, (d (en.1.getLastD 0) h).map V.int, rfl, tb_get ta (sp7 _ _ ha7) upd_same, ?_⟩
              have hc8 := sp7 _ _ hc7
              have ha8 := sp7 _ _ ha7
              have hG8 := sp7 _ _ hG7
              have hD8 := sp7 _ _ hD7
              have hF8 := sp7 _ _ hF7
              have pG8 : Paired (IsE (upd H7 p (.tup [hv (en.1.getLastD 0), hv h]))) xg7 cur := pr_mono pG7 fun v r h => isE_keep _ _ _ _ (keepT_same sp7) h
              have s8 := s7.trans (sameB_of sp7)
              clear sp7 np
              generalize upd H7 p (.tup [hv (en.1.getLastD 0), hv h]) = H8 at hc8 ha8 hG8 hD8 hF8 pG8 s8 ⊢
              cases ed : d (en.1.getLastD 0) h with
              | none =>
                have es : stepX d en h = [] := by unfold stepX; rw [ed]
                rw [es, List.append_nil]
                exact ⟨_, rfl, ⟨_, _, rfl⟩, s8, hD8, ⟨xg7, hG8, pG8⟩, kv7, hF8, tF7⟩
              | some y =>
                have es : stepX d en h = [(en.1 ++ [h], en.2 + y)] := by unfold stepX; rw [ed]
                rw [es]
                refine ⟨_, rfl, ?_⟩
                have eg : ∀ (o : Option Int) (x : Int), (o.map V.int).getD (.int x) = .int (o.getD x) := fun o x => by cases o <;> rfl
                refine ⟨_, rfl, _, rfl, _, rfl, 1, rfl, c, en.1.map hv, -1, _, rfl, rfl, .of hc8, last_at ene, _, rfl, by show 2 ≤ sizeLine; decide, fun q1 nq1 => ?_⟩
                have sq1 := same_new (o := .tup [hv (en.1.getLastD 0), hv h]) nq1
                refine ⟨a, .int y, rfl, by rw [show some (V.int y) = (d (en.1.getLastD 0) h).map V.int by rw [ed]; rfl]; exact tb_get ta (sq1 _ _ ha8) upd_same, _, _, rfl, rfl, ?_⟩
                refine ⟨_, rfl, .inl ⟨rfl, _, .of (sq1 _ _ hG8)⟩, _, rfl, _, rfl, by show 1 ≤ sizeLine; decide, fun q2 nq2 => ?_⟩
                have sq2 := same_new (o := .tup [hv h]) nq2
                refine ⟨c, q2, en.1.map hv, [hv h], rfl, rfl, .of (sq2 _ _ (sq1 _ _ hc8)), .of upd_same, Nat.le_trans (by show (en.1.map hv).length + 1 ≤ 6; rw [List.length_map]; omega) (by decide : 6 ≤ sizeLine), fun z => ?_, (fun _ z => nomatch z), fun _ _ q3 nq3 => ?_⟩
                · exact (ene (List.map_eq_nil_iff.mp z)).elim
                have sq3 := same_new (o := .tup (en.1.map hv ++ [hv h])) nq3
                refine ⟨_, rfl, by show 2 ≤ sizeLine; decide, fun q4 nq4 => ?_⟩
                have sq4 := same_new (o := .tup [.ref q3, .int (en.2 + y)]) nq4
                have sqq := ((sq1.trans sq2).trans sq3).trans sq4
                have hE4 : IsE (upd (upd (upd (upd H8 q1 (.tup [hv (en.1.getLastD 0), hv h])) q2 (.tup [hv h])) q3 (.tup (en.1.map hv ++ [hv h]))) q4 (.tup [.ref q3, .int (en.2 + y)])) (.ref q4) (en.1 ++ [h], en.2 + y) :=
                  ⟨q4, q3, rfl, upd_same, by
                    rw [sq4 _ _ upd_same]
                    show some (HO.tup (en.1.map hv ++ [hv h])) = some (HO.tup ((en.1 ++ [h]).map hv))
                    rw [List.map_append]
                    rfl⟩
                clear sq1 sq2 sq3 sq4
                generalize upd (upd (upd (upd H8 q1 (.tup [hv (en.1.getLastD 0), hv h])) q2 (.tup [hv h])) q3 (.tup (en.1.map hv ++ [hv h]))) q4 (.tup [.ref q3, .int (en.2 + y)]) = H9 at sqq hE4 ⊢
                have hG9 := sqq _ _ hG8
                refine ⟨G, xg7, _, rfl, rfl, hG9, Nat.lt_of_lt_of_le (by rw [pG7.length]; exact lcur) (by decide : 15625 ≤ sizeLine), ?_⟩
                have kt : KeepT H9 (upd H9 G (.lst (xg7 ++ [.ref q4]))) := keepT_upd hG9 fun _ z => by cases z
                have hF10 : (upd H9 G (.lst (xg7 ++ [.ref q4]))) F = some (.dT kv7) := by rw [upd_ne nGF.symm]; exact sqq _ _ hF8
                have hD10 : (upd H9 G (.lst (xg7 ++ [.ref q4]))) D2 = some (.lst (rs.map hv)) := by rw [upd_ne nDG]; exact sqq _ _ hD8
                have lv10 : LvAt (upd H9 G (.lst (xg7 ++ [.ref q4]))) G (cur ++ [(en.1 ++ [h], en.2 + y)]) :=
                  ⟨_, upd_same, pr_app (pr_mono pG8 fun v r h => isE_keep _ _ _ _ ((keepT_same sqq).trans kt) h) (.cons (isE_keep _ _ _ _ kt hE4) .nil)⟩
                have s10 : SameB F H4 (upd H9 G (.lst (xg7 ++ [.ref q4]))) := sameB_mut (s8.trans (sameB_of sqq)) nG
                generalize upd H9 G (.lst (xg7 ++ [.ref q4])) = H10 at hF10 hD10 lv10 s10 ⊢
                have lz : kv7.length < sizeLine := by
                  have := tb_len tF7
                  have : hs.length * hs.length ≤ 5 * 5 := Nat.mul_le_mul h5 h5
                  exact small1000 (by omega)
                refine ⟨_, rfl, _, rfl, F, rfl, .inr ⟨_, .of hF10⟩, _, rfl, _, rfl, by show 2 ≤ sizeLine; decide, fun r1 m1 => ?_⟩
                have sr1 := same_new (o := .tup [hv s0, hv h]) m1
                refine ⟨_, rfl, _, tb_get tF7 (sr1 _ _ hF10) upd_same, _, _, by rw [eg], ?_⟩
                rw [minO_eq]
                refine ⟨_, rfl, _, rfl, _, rfl, by show 2 ≤ sizeLine; decide, fun r2 m2 => ?_⟩
                have sr2 := same_new (o := .tup [hv s0, hv h]) m2
                have srr := sr1.trans sr2
                have hF12 := srr _ _ hF10
                refine ⟨F, _, rfl, .inr ⟨kv7, pk s0 h, r2, hF12, rfl, upd_same, lz, rfl⟩, ⟨_, _, rfl⟩, (s10.trans (sameB_of srr)).trans sameB_upd, ?_, ?_, ?_⟩
                · rw [upd_ne nDF]
                  exact srr _ _ hD10
                · obtain ⟨zs, hz, pz⟩ := lv10
                  have kt2 := keepT_upd (o := .dT (putK kv7 (pk s0 h) (.int (minO ((cur.foldl (putF s0) fk) s0 h) (en.2 + y))))) hF12 fun _ z => by cases z
                  exact ⟨zs, by rw [upd_ne nGF]; exact srr _ _ hz, pr_mono pz fun v r h => isE_keep _ _ _ _ ((keepT_same srr).trans kt2) h⟩
                · rw [List.foldl_append]
                  refine ⟨_, upd_same, ?_⟩
                  have e1 : (en.1 ++ [h]).getLastD 0 = h := by simp
                  show Tb hs (dI (shf _ s0 ((en.1 ++ [h]).getLastD 0) (en.2 + y))) _
                  rw [e1]
                  exact tb_shf tF7 hs1 hmh
            · rintro σ H7 ⟨⟨x8, x9, rfl⟩, s7, hD7, hG7, hT7⟩
              rw [List.length_map, List.take_length] at hG7 hT7
              exact ⟨⟨_, _, _, _, rfl⟩, s7, hG7, hT7⟩
        · rintro σ H5 ⟨⟨x6, x7, x8, x9, rfl⟩, s5, hG5, hT5⟩
          rw [pL4.length, List.take_length] at hG5 hT5
          exact ⟨_, rfl, k + 1, G, _, _, _, _, _, by omega, rfl, s4.trans s5, nGF, hG5, hT5⟩
    · rintro σ H2 ⟨⟨x3, x4, x5, x6, x7, x8, x9, rfl⟩, s2, hT2⟩
      rw [List.length_map, List.take_length] at hT2
      exact ⟨_, rfl, q F H2 (s2.new nF) nF hT2⟩
end
end K80

set_option maxHeartbeats 4000000
/-! the law's own check of offsets; plain readings; what a log tells -/
namespace K80
open PySem PySem.Spec L2
open PyProof.Rows hiding St
abbrev s__law_cl_can : Stmt := (topS 67)
theorem sc__law_cl_can : FnScope ["_law_roads", "_law_letters", "_law_offsets", "_law_one", "_law_sent", "_law_other", "_law_heard", "_law_least", "_law_most", "_law_took"] ["_law_roads", "_law_letters", "_law_offsets"] (defScope s__law_cl_can) := ⟨rfl, rfl, rfl, by decide +kernel, rfl, by decide +kernel, by decide +kernel⟩
section
variable {P : Program} {w : World} {K : PySem.W.Frag} {mg : Str → Option Value} {base : Heap}
def tookF (fr : Nat → Int × Int) (l : Lt) : Int × Int := lessF (l.heard - l.sent, 1) (lessF (fr l.other) (fr l.one))
/-- one letter can have been sent so, and the sizes -/
def CanL (rd : Nat × Nat → Int × Option Int) (fr : Nat → Int × Int) (l : Lt) : Prop :=
  (Sz 2000 (l.heard - l.sent, 1) ∧ Sz 2000 (fr l.other) ∧ Sz 2000 (fr l.one) ∧ Sz 2000 (lessF (fr l.other) (fr l.one)) ∧ Sz 2000 (tookF fr l) ∧ Sz 2000 ((rd l.k).1, 1)) ∧
  belowF (tookF fr l) ((rd l.k).1, 1) = false ∧ ∀ m, (rd l.k).2 = some m → Sz 2000 (m, 1) ∧ belowF (m, 1) (tookF fr l) = false
def spLCan : Sp := fun vs H Q _ => ∃ (r a o : Addr) (ks : List (Nat × Nat)) (rd : Nat × Nat → Int × Option Int) (ls : List Lt) (hs : List Nat) (fr : Nat → Int × Int), vs = [.ref r, .ref a, .ref o] ∧ RdKept H r ks rd ∧ LtKept H a ls ∧ RdK H o hs fr ∧ (∀ l ∈ ls, l.k ∈ ks) ∧ (∀ k ∈ ks, k.1 ∈ hs ∧ k.2 ∈ hs) ∧
  (∀ l ∈ ls, CanL rd fr l) ∧ ∀ H', Same H H' → Q (.bl true) H'
theorem ok_l_can (T : Txt K mg) : CallOk P w K mg base CX0 3 "_law_cl_can" ["_law_roads", "_law_letters", "_law_offsets"] [] spLCan := by
  have C__law_cl_less : CallOk P w K mg base CX0 2 "_law_cl_less" ["_law_one", "_law_other"] [] spLess := ok_l_less T
  have C__law_cl_below : CallOk P w K mg base CX0 1 "_law_cl_below" ["_law_one", "_law_other"] [] spBelow := ok_l_below T
  refine def_ok (st := s__law_cl_can) T 56 50 rfl rfl sc__law_cl_can (fun _ _ _ _ _ _ us hl => match us, hl with | [_, _, _], _ => rfl) (fun vs H Q E h => ?_) (fun cdv f A outer s H vs Q E hr h => ?_)
  · obtain ⟨r, a, o, ks, rd, ls, hs, fr, rfl, _⟩ := h
    rfl
  · obtain ⟨r, a, o, ks, rd, ls, hs, fr, rfl, hr1, ⟨xs, ha, hP⟩, ho, hin, hkh, hc, q⟩ := h
    refine ⟨_, PSs.nox (pss_cons (ps_for PassesOwn.never rfl (pi_listK (K := K) rfl (pv 1)) (pg_tupK (K := K) rfl rfl (pgs_cons (pg_name (i := 3) sc__law_cl_can.nd rfl (.inl rfl)) (pgs_cons (pg_name (i := 4) sc__law_cl_can.nd rfl (.inl rfl)) (pgs_cons (pg_name (i := 5) sc__law_cl_can.nd rfl (.inl rfl)) (pgs_cons (pg_name (i := 6) sc__law_cl_can.nd rfl (.inl rfl)) pgs_nil)))))
      (pss_cons (ps_asg (pe_dget (hu_of hr) (pv 0) (pe_tup (pa_cons (pv 3) (pa_cons (pv 5) pa_nil))) (fun _ _ => rfl)) (pg_tupK (K := K) rfl rfl (pgs_cons (pg_name (i := 7) sc__law_cl_can.nd rfl (.inl rfl)) (pgs_cons (pg_name (i := 8) sc__law_cl_can.nd rfl (.inl rfl)) pgs_nil))))
      (pss_cons (ps_set (i := 9) sc__law_cl_can.nd rfl (.inl rfl) (pe_callT C__law_cl_less (hr.mono (by decide)) (by rfl) pass0 (pa_cons (pe_tup (pa_cons (pe_op op_sub (pv 6) (pv 4)) (pa_cons (pe_int) pa_nil))) (pa_cons (pe_callT C__law_cl_less (hr.mono (by decide)) (by rfl) pass0 (pa_cons (pe_dget (hu_of hr) (pv 2) (pv 5) (fun _ _ => rfl)) (pa_cons (pe_dget (hu_of hr) (pv 2) (pv 3) (fun _ _ => rfl)) pa_nil))) pa_nil))))
      (pss_one (ps_if (PW.pt (pw_or (pt_val (pe_callT C__law_cl_below (hr.mono (by decide)) (by rfl) pass0 (pa_cons (pv 9) (pa_cons (pe_tup (pa_cons (pv 7) (pa_cons (pe_int) pa_nil))) pa_nil)))) (pw_or1 (PW.pt (pw_and (pt_cmpR op_notN (pv 8) (pe_non) (nomark _)) (pw_and1 (pt_val (pe_callT C__law_cl_below (hr.mono (by decide)) (by rfl) pass0 (pa_cons (pe_tup (pa_cons (pv 8) (pa_cons (pe_int) pa_nil))) (pa_cons (pv 9) pa_nil)))))))))) (pss_one (ps_ret (pe_bl))) pss_nil)))))
      (pss_one (ps_ret (pe_bl)))), ?_⟩
    refine ⟨_, rfl, a, rfl, ⟨_, .of ha⟩, ?_⟩
    refine for_list (xs := xs) (fun i σ H' => (∃ x3 x4 x5 x6 x7 x8 x9, σ = [some (.ref r), some (.ref a), some (.ref o), x3, x4, x5, x6, x7, x8, x9]) ∧ Same H H')
      ⟨⟨_, _, _, _, _, _, _, rfl⟩, .refl _⟩ ?_ ?_ ?_
    · intro i σ H' _ ⟨_, sm⟩
      exact .of (sm _ _ ha)
    · rintro i x σ H' hx ⟨⟨x3, x4, x5, x6, x7, x8, x9, rfl⟩, sm⟩
      obtain ⟨l, hl, b, rfl, hb⟩ := pr_getL hP hx
      have hm : l ∈ ls := mem_of i hl
      obtain ⟨kh1, kh2⟩ := hkh _ (hin l hm)
      obtain ⟨⟨z1, z2, z3, z4, z5, z6⟩, nb, nm⟩ := hc l hm
      refine ⟨b, Lt.v l, rfl, .of (sm _ _ hb), rfl, _, _, rfl, _, _, rfl, _, _, rfl, _, _, rfl, rfl, ?_⟩
      refine ⟨_, rfl, _, rfl, _, rfl, by show 2 ≤ sizeLine; decide, fun p np => ?_⟩
      have sp := same_new (o := .tup [hv l.one, hv l.other]) np
      obtain ⟨c, g, hcc⟩ := RdKept.get (k := l.k) (b := p) (RdKept.same (sm.trans sp) hr1) upd_same (hin l hm)
      refine ⟨r, .ref c, rfl, g, c, _, rfl, .of hcc, rfl, _, _, rfl, _, _, rfl, rfl, ?_⟩
      have s1 := sm.trans sp
      generalize upd H' p (.tup [hv l.one, hv l.other]) = H1 at s1 hcc
      refine ⟨_, rfl, _, rfl, _, _, rfl, rfl, by show 2 ≤ sizeLine; decide, fun p2 n2 => ?_⟩
      have s2 := s1.trans (same_new (o := .tup [.int (l.heard - l.sent), .int 1]) n2)
      have f2 : FrAt (upd H1 p2 (.tup [.int (l.heard - l.sent), .int 1])) p2 (l.heard - l.sent, 1) := upd_same
      generalize upd H1 p2 (.tup [.int (l.heard - l.sent), .int 1]) = H2 at s2 f2 ⊢
      obtain ⟨b3, g3, f3⟩ := (ho.same s2).get kh2
      obtain ⟨b4, g4, f4⟩ := (ho.same s2).get kh1
      refine ⟨_, rfl, _, rfl, o, _, rfl, g3, _, rfl, _, rfl, o, _, rfl, g4, b3, b4, _, _, rfl, f3, f4, z2, z3, fun p5 H5 s5 n5 f5 => ?_⟩
      refine ⟨p2, p5, _, _, rfl, s5 _ _ f2, f5, z1, z4, fun p6 H6 s6 n6 f6 => ?_⟩
      have s6' := (s2.trans s5).trans s6
      refine ⟨_, rfl, _, rfl, by show 2 ≤ sizeLine; decide, fun p7 n7 => ?_⟩
      have s7 := same_new (o := .tup [.int (rd l.k).1, .int 1]) n7
      refine ⟨p6, p7, tookF fr l, ((rd l.k).1, 1), rfl, s7 _ _ f6, upd_same, z5, z6, ?_⟩
      rw [nb]
      refine ⟨_, rfl, ?_⟩
      refine ⟨_, rfl, rfl, _, rfl, ?_⟩
      cases em : (rd l.k).2 with
      | none => exact ⟨⟨_, _, _, _, _, _, _, rfl⟩, s6'.trans s7⟩
      | some m =>
        obtain ⟨zm, nbm⟩ := nm m em
        refine ⟨_, rfl, by show 2 ≤ sizeLine; decide, fun p8 n8 => ?_⟩
        have s8 := same_new (o := .tup [.int m, .int 1]) n8
        refine ⟨_, rfl, p8, p6, (m, 1), tookF fr l, rfl, upd_same, s8 _ _ (s7 _ _ f6), zm, z5, ?_⟩
        rw [nbm]
        exact ⟨_, rfl, ⟨_, _, _, _, _, _, _, rfl⟩, (s6'.trans s7).trans s8⟩
    · rintro σ H' ⟨⟨x3, x4, x5, x6, x7, x8, x9, rfl⟩, sm⟩
      exact q _ sm
end
end K80

set_option maxHeartbeats 4000000
/-! what the law tells of a log -/
namespace K80
open PySem PySem.Spec L2
open PyProof.Rows hiding St
abbrev s__law_told_log : Stmt := (topS 74)
theorem sc__law_told_log : FnScope ["_law_hands_here", "_law_roads", "_law_letters", "_law_rows", "_law_pair"] ["_law_hands_here", "_law_roads", "_law_letters"] (defScope s__law_told_log) := ⟨rfl, rfl, rfl, by decide +kernel, rfl, by decide +kernel, by decide +kernel⟩
section
variable {P : Program} {w : World} {K : PySem.W.Frag} {mg : Str → Option Value} {base : Heap}
def spLTold : Sp := fun vs H Q _ => ∃ (l r a : Addr) (hs : List Nat) (ks : List (Nat × Nat)) (rd : Nat × Nat → Int × Option Int) (ls : List Lt), vs = [.ref l, .ref r, .ref a] ∧ H l = some (.lst (hs.map hv)) ∧ RdKept H r ks rd ∧ LtKept H a ls ∧ ks.Nodup ∧ ks.length ≤ 1000 ∧ (∀ k ∈ ks, k.1 < 6 ∧ k.2 < 6) ∧ ls.length ≤ 1000 ∧ hs.length ≤ 1000 ∧
  ∀ p H' ks', Same H H' → H p = none → ks'.Perm ks → ks'.Pairwise pLe → ToldAt H' p ⟨hs, ks', rd, ls⟩ → Q (.ref p) H'
theorem ok_l_told (T : Txt K mg) : CallOk P w K mg base CX0 2 "_law_told_log" ["_law_hands_here", "_law_roads", "_law_letters"] [] spLTold := by
  refine def_ok (st := s__law_told_log) T 63 57 rfl rfl sc__law_told_log (fun _ _ _ _ _ _ us hl => match us, hl with | [_, _, _], _ => rfl) (fun vs H Q E h => ?_) (fun cdv f A outer s H vs Q E hr h => ?_)
  · obtain ⟨l, r, a, hs, ks, rd, ls, rfl, _⟩ := h
    rfl
  · obtain ⟨l, r, a, hs, ks, rd, ls, rfl, hl, hr1, ha, nd, kz, k6, lz, hz, q⟩ := h
    refine ⟨_, PSs.nox (pss_cons (ps_set (i := 3) sc__law_told_log.nd rfl (.inl rfl) (pe_lst pa_nil))
      (pss_cons (ps_for PassesOwn.never rfl (pi_listK (K := K) rfl (pe_callB (id := "sorted") cr_sortedN (by rfl) T.f_sorted (by decide +kernel) (pa_cons (pe_callTy (T := "list") (call_list_dT rfl) (by rfl) T.f_list (by decide +kernel) (pa_cons (pv 1) pa_nil)) pa_nil))) (pg_name (i := 4) sc__law_told_log.nd rfl (.inl rfl))
      (pss_one (ps_expr (pe_bmK (K := K) rfl PySem.F.plainAttrs_list PySem.F.slot_list_append PySem.F.type_list_append mt_append (pv 3) (pa_cons (pe_ifExp (pt_cmpR op_notN (pe_ix (ix_tupK (K := K) rfl) (pe_dget (hu_of hr) (pv 1) (pv 4) (fun _ _ => rfl)) (pe_int) (fun _ _ => rfl)) (pe_non) (nomark _)) (pe_op (op_catK (K := K) rfl) (pv 4) (pe_dget (hu_of hr) (pv 1) (pv 4) (fun _ _ => rfl))) (pe_op (op_catK (K := K) rfl) (pv 4) (pe_slice (sl_tupK (K := K) rfl) (pe_dget (hu_of hr) (pv 1) (pv 4) (fun _ _ => rfl)) po_none (po_some (pe_int))))) pa_nil)))))
      (pss_one (ps_ret (pe_tup (pa_cons (pe_callTy (T := "tuple") (call_tupK (K := K) rfl) (by rfl) T.f_tuple (by decide +kernel) (pa_cons (pv 0) pa_nil)) (pa_cons (pe_callTy (T := "tuple") (call_tupK (K := K) rfl) (by rfl) T.f_tuple (by decide +kernel) (pa_cons (pv 3) pa_nil)) (pa_cons (pe_callTy (T := "tuple") (call_tupK (K := K) rfl) (by rfl) T.f_tuple (by decide +kernel) (pa_cons (pv 2) pa_nil)) pa_nil)))))))), ?_⟩
    refine ⟨by show 0 ≤ sizeLine; decide, fun F nF => ?_⟩
    have sF := same_new (o := .lst []) nF
    obtain ⟨v, hr2, hv1⟩ := hr1
    refine ⟨_, rfl, r, dt ks v, rfl, .of (sF _ _ hr2), fun a1 bs na hk => ?_⟩
    have hPk := pr_keys hk
    have sA := same_new (o := .lst (bs.map V.ref)) na
    refine ⟨a1, bs, ks, rfl, .of upd_same, pr_mono hPk fun b k h => sA _ _ h, fun bs' ks' p hP' pm srt np => ?_⟩
    have sP := same_new (o := .lst (bs'.map V.ref)) np
    have sFP := sA.trans sP
    have hF2 := sFP _ _ (upd_same (H := H) (a := F) (o := .lst []))
    have s2 := sF.trans sFP
    have hp2 : (upd (upd (upd H F (.lst [])) a1 (.lst (bs.map V.ref))) p (.lst (bs'.map V.ref))) p = some (.lst (bs'.map V.ref)) := upd_same
    have hP2 : Paired (fun b k => PrT (upd (upd (upd H F (.lst [])) a1 (.lst (bs.map V.ref))) p (.lst (bs'.map V.ref))) b k.1 k.2) bs' ks' := pr_mono hP' fun b k h => sP _ _ h
    have npF : p ≠ F := (ne_of_none (sA _ _ (upd_same (H := H) (a := F) (o := .lst []))) np).symm
    clear sA sP sFP sF hP' hPk hk
    generalize upd (upd (upd H F (.lst [])) a1 (.lst (bs.map V.ref))) p (.lst (bs'.map V.ref)) = H2 at hF2 s2 hp2 hP2 ⊢
    have hkin : ∀ k ∈ ks', k ∈ ks := fun k hk => pm.mem_iff.mp hk
    have lk : ks'.length ≤ 1000 := by rw [pm.length_eq]; exact kz
    refine ⟨p, rfl, ⟨_, .of hp2⟩, ?_⟩
    refine for_list (xs := bs'.map V.ref) (fun i σ H' => (∃ x4, σ = [some (.ref l), some (.ref r), some (.ref a), some (.ref F), x4]) ∧ SameB F H2 H' ∧ ∃ xf, H' F = some (.lst xf) ∧ Paired (IsT (fun k => rowV k (rd k)) H') xf (ks'.take i))
      ⟨⟨_, rfl⟩, .refl, [], hF2, .nil⟩ ?_ ?_ ?_
    · intro i σ H' _ ⟨_, sm, _⟩
      exact .of (sm _ _ npF hp2)
    · rintro i x σ H3 hx ⟨⟨x4, rfl⟩, s3, xf, hF3, pf⟩
      have hx' : ∃ t, bs'[i]? = some t ∧ x = .ref t := by
        rw [List.getElem?_map] at hx
        cases hb : bs'[i]? with
        | none => rw [hb] at hx; cases hx
        | some t =>
          rw [hb] at hx
          injection hx with hx
          exact ⟨t, rfl, hx.symm⟩
      obtain ⟨t, hbt, rfl⟩ := hx'
      obtain ⟨k, hk, ht⟩ := pr_getL hP2 hbt
      have kin := hkin k (mem_of i hk)
      have ht3 := s3 _ _ (ne_of ht hF2 fun z => by cases z) ht
      have r2 : RdKept H2 r ks rd := RdKept.same s2 ⟨v, hr2, hv1⟩
      have sr := s2.trans (Same.refl H2)
      have r3 : RdKept H3 r ks rd := by
        refine ⟨v, s3 _ _ (ne_of_none hr2 nF) (s2 _ _ hr2), fun x hx => ?_⟩
        obtain ⟨b, e1, e2⟩ := hv1 x hx
        exact ⟨b, e1, s3 _ _ (ne_of_none e2 nF) (s2 _ _ e2)⟩
      obtain ⟨c, g, hc⟩ := r3.get ht3 kin
      have lf : xf.length < sizeLine := by
        have h1 := pf.length
        rw [List.length_take] at h1
        have : min i ks'.length ≤ ks'.length := Nat.min_le_right _ _
        exact small1000 (by omega)
      have done : ∀ z (H4 : Hp), Same H3 H4 → H4 z = some (.tup (rowV k (rd k))) → H4 F = some (.lst xf) ∧ Paired (IsT (fun k => rowV k (rd k)) (upd H4 F (.lst (xf ++ [.ref z])))) (xf ++ [.ref z]) (ks'.take (i + 1)) := by
        intro z H4 s4 hz
        have hF4 := s4 _ _ hF3
        have kt : KeepT H4 (upd H4 F (.lst (xf ++ [.ref z]))) := keepT_upd hF4 fun _ z => by cases z
        refine ⟨hF4, ?_⟩
        rw [take_succ' hk]
        exact pr_app (pr_mono pf fun v r h => isT_keep _ _ _ _ _ ((keepT_same s4).trans kt) h) (.cons ⟨z, rfl, kt _ _ hz⟩ .nil)
      refine ⟨_, rfl, .inl ⟨rfl, _, .of hF3⟩, ?_⟩
      refine ⟨_, rfl, _, rfl, r, .ref c, rfl, g, c, _, 1, _, rfl, rfl, .of hc, rfl, rfl, _, rfl, ?_⟩
      cases em : (rd k).2 with
      | none =>
        rw [em] at hc
        refine ⟨_, rfl, _, rfl, _, rfl, r, .ref c, rfl, g, 1, rfl, c, _, rfl, .of hc, (fun z => ?_), fun _ q1 n1 => ?_⟩
        · exact absurd z.2 (by show ¬ HT.sIx 2 2 (some 1) = 2; decide)
        have ec : cutV [V.int (rd k).1, optI none] none (some 1) = [V.int (rd k).1] := cut_take _ 1 (by show 1 ≤ 2; decide)
        rw [ec]
        have sq1 := same_new (o := .tup [V.int (rd k).1]) n1
        refine ⟨t, q1, [hv k.1, hv k.2], [V.int (rd k).1], rfl, rfl, .of (sq1 _ _ ht3), .of upd_same, by show 3 ≤ sizeLine; decide, (fun z => nomatch z), (fun _ z => nomatch z), fun _ _ z nz => ?_⟩
        have er : rowV k (rd k) = [hv k.1, hv k.2] ++ [V.int (rd k).1] := by unfold rowV; rw [em]; rfl
        have sz := sq1.trans (same_new (o := .tup ([hv k.1, hv k.2] ++ [V.int (rd k).1])) nz)
        obtain ⟨d1, d2⟩ := done z _ sz (by rw [er]; exact upd_same)
        exact ⟨F, xf, .ref z, rfl, rfl, d1, lf, ⟨_, rfl⟩, (s3.trans (sameB_of sz)).trans sameB_upd, _, upd_same, d2⟩
      | some m =>
        rw [em] at hc
        refine ⟨_, rfl, _, rfl, _, rfl, r, .ref c, rfl, g, t, c, [hv k.1, hv k.2], [V.int (rd k).1, .int m], rfl, rfl, .of ht3, .of hc, by show 4 ≤ sizeLine; decide, (fun z => nomatch z), (fun _ z => nomatch z), fun _ _ z nz => ?_⟩
        have er : rowV k (rd k) = [hv k.1, hv k.2] ++ [V.int (rd k).1, .int m] := by unfold rowV; rw [em]; rfl
        have sz := same_new (o := .tup ([hv k.1, hv k.2] ++ [V.int (rd k).1, .int m])) nz
        obtain ⟨d1, d2⟩ := done z _ sz (by rw [er]; exact upd_same)
        exact ⟨F, xf, .ref z, rfl, rfl, d1, lf, ⟨_, rfl⟩, (s3.trans (sameB_of sz)).trans sameB_upd, _, upd_same, d2⟩
    · rintro σ H3 ⟨⟨x4, rfl⟩, s3, xf, hF3, pf⟩
      rw [List.length_map, hP2.length, List.take_length] at pf
      have hl3 := s3 _ _ (ne_of_none hl nF) (s2 _ _ hl)
      obtain ⟨zs, hz, hzp⟩ := ha
      have ha3 := s3 _ _ (ne_of_none hz nF) (s2 _ _ hz)
      refine ⟨_, rfl, l, _, rfl, .inl ⟨.of hl3, fun a2 n2 => ?_⟩⟩
      have t2 := same_new (o := .tup (hs.map hv)) n2
      refine ⟨_, rfl, F, xf, rfl, .inl ⟨.of (t2 _ _ hF3), fun b2 m2 => ?_⟩⟩
      have t3 := same_new (o := .tup xf) m2
      refine ⟨_, rfl, a, zs, rfl, .inl ⟨.of (t3 _ _ (t2 _ _ ha3)), fun c2 k2 => ?_⟩⟩
      have t4 := same_new (o := .tup zs) k2
      refine ⟨by show 3 ≤ sizeLine; decide, fun p5 np5 => ?_⟩
      have t5 := same_new (o := .tup [.ref a2, .ref b2, .ref c2]) np5
      have tt := ((t2.trans t3).trans t4).trans t5
      have sH : SameB F H H3 := (sameB_of s2).trans s3
      have sAll := (sH.new nF).trans tt
      refine q p5 _ ks' sAll ((sH.new nF).free (t2.free (t3.free (t4.free np5)))) pm srt ⟨a2, b2, c2, upd_same, (t3.trans (t4.trans t5)) _ _ upd_same, ⟨xf, (t4.trans t5) _ _ upd_same, pr_mono pf fun v k h => isT_same _ _ _ _ _ tt h⟩, zs, t5 _ _ upd_same, pr_mono hzp fun v k ⟨b, e, h⟩ => ⟨b, e, sAll _ _ h⟩⟩
end
end K80

set_option maxHeartbeats 4000000
/-! the law's plain reading -/
namespace K80
open PySem PySem.Spec L2
open PyProof.Rows hiding St
abbrev s__law_cl_plain : Stmt := (topS 69)
theorem sc__law_cl_plain : FnScope ["_law_reading", "_law_hand"] ["_law_reading"] (defScope s__law_cl_plain) := ⟨rfl, rfl, rfl, by decide +kernel, rfl, by decide +kernel, by decide +kernel⟩
section
variable {P : Program} {w : World} {K : PySem.W.Frag} {mg : Str → Option Value} {base : Heap}
theorem merge_dh (v : Nat → V) : ∀ (m l : List Nat), (l ++ m).Nodup → mergeK (dh l v) (dh m v) = dh (l ++ m) v
  | [], l, _ => by rw [List.append_nil]; rfl
  | k :: m, l, h => by
    have hk : k ∉ l := fun z => (List.nodup_append.mp h).2.2 k z k List.mem_cons_self rfl
    show mergeK (putK (dh l v) (hk1 k) (v k)) (dh m v) = _
    rw [put_dh_new _ hk]
    have e : (dh (l ++ [k]) fun x => if x = k then v k else v x) = dh (l ++ [k]) v := by
      congr 1
      funext x
      by_cases c : x = k
      · rw [if_pos c, c]
      · rw [if_neg c]
    rw [e, merge_dh v m (l ++ [k]) (by rw [List.append_assoc]; exact h), List.append_assoc]
    rfl
/-- a hand and its fraction -/
def IsPl (g : Nat → Int × Int) (H : Hp) (v : V) (h : Nat) : Prop := ∃ p c, v = .ref p ∧ H p = some (.tup [hv h, .ref c]) ∧ FrAt H c (g h)
theorem isPl_keep (g : Nat → Int × Int) (H H' : Hp) (v : V) (u : Nat) (k : KeepT H H') (h : IsPl g H v u) : IsPl g H' v u := let ⟨b, c, e, z, y⟩ := h; ⟨b, c, e, k b _ z, k c _ y⟩
theorem pl_split {g : Nat → Int × Int} {H : Hp} {ys : List V} {hs : List Nat} (h : Paired (IsPl g H) ys hs) (nd : hs.Nodup) : ∃ (ps : List Addr) (v : Nat → V), ys = ps.map V.ref ∧ Paired (fun p h => H p = some (.tup [hv h, v h])) ps hs ∧ ∀ h ∈ hs, ∃ b, v h = .ref b ∧ FrAt H b (g h) := by
  induction h with
  | nil => exact ⟨[], fun _ => .non, rfl, .nil, fun _ h => nomatch h⟩
  | @cons y x l m h t ih =>
    obtain ⟨n1, n2⟩ := List.nodup_cons.mp nd
    obtain ⟨ps, v, rfl, hp, hv1⟩ := ih n2
    obtain ⟨p, c, rfl, h1, h2⟩ := h
    have ne : ∀ z ∈ m, (if z = x then V.ref c else v z) = v z := fun z hz => if_neg fun (e : z = x) => n1 (by rw [← e]; exact hz)
    refine ⟨p :: ps, fun z => if z = x then .ref c else v z, rfl, .cons (by show H p = some (.tup [hv x, if x = x then V.ref c else v x]); rw [if_pos rfl]; exact h1) ?_, fun z hz => ?_⟩
    · have : ∀ {ps : List Addr} {m : List Nat}, Paired (fun p h => H p = some (.tup [hv h, v h])) ps m → (∀ z ∈ m, (if z = x then V.ref c else v z) = v z) → Paired (fun p h => H p = some (.tup [hv h, if h = x then .ref c else v h])) ps m := by
        intro ps m h
        induction h with
        | nil => intro _; exact .nil
        | cons h _ ih => intro k; exact .cons (by rw [k _ List.mem_cons_self]; exact h) (ih fun z hz => k z (List.mem_cons_of_mem _ hz))
      exact this hp ne
    · rcases List.mem_cons.mp hz with e | e
      · subst e
        exact ⟨c, if_pos rfl, h2⟩
      · obtain ⟨b, e1, e2⟩ := hv1 z e
        exact ⟨b, (ne z e).trans e1, e2⟩
def spLPl : Sp := fun vs H Q _ => ∃ (a : Addr) (hs : List Nat) (fr : Nat → Int × Int), vs = [.ref a] ∧ RdK H a hs fr ∧ hs.Nodup ∧ hs.length ≤ 6 ∧ (∀ h ∈ hs, h < 6) ∧ (∀ h ∈ hs, Sz 2000 (fr h)) ∧
  ∀ p H' hs', Same H H' → H p = none → hs'.Perm hs → RdK H' p hs' (fun h => lowF (fr h).1 (fr h).2) → Q (.ref p) H'
theorem ok_l_plain (T : Txt K mg) : CallOk P w K mg base CX0 2 "_law_cl_plain" ["_law_reading"] [] spLPl := by
  have C__law_cl_low : CallOk P w K mg base CX0 1 "_law_cl_low" ["_law_top", "_law_bottom"] [] spLowest := ok_l_low T
  refine def_ok (st := s__law_cl_plain) T 58 52 rfl rfl sc__law_cl_plain (fun _ _ _ _ _ _ us hl => match us, hl with | [_], _ => rfl) (fun vs H Q E h => ?_) (fun cdv f A outer s H vs Q E hr h => ?_)
  · obtain ⟨a, hs, fr, rfl, _⟩ := h
    rfl
  · obtain ⟨a, hs, fr, rfl, ha, nd, h6, hh6, hz, q⟩ := h
    refine ⟨_, PSs.nox (pss_one (ps_ret (pe_callTy (T := "dict") (call_dictP rfl) (by rfl) T.f_dict (by decide +kernel) (pa_cons (pe_lc (own := [("_law_hand", 1)]) (by rfl) sc__law_cl_plain.nd (pi_listK (K := K) rfl (pe_callB (id := "sorted") (cr_sortedSK (K := K) rfl) (by rfl) T.f_sorted (by decide +kernel) (pa_cons (pe_callTy (T := "list") (call_list_dK rfl) (by rfl) T.f_list (by decide +kernel) (pa_cons (pv 0) pa_nil)) pa_nil))) (blkOk_by (own := [("_law_hand", 1)]) (N := ["_law_reading", "_law_hand"]) (sc := defScope (topS 69)) (by decide +kernel)) (fun _ _ _ _ _ => (pg_name (i := 1) sc__law_cl_plain.nd rfl (.inl rfl))) (fun _ _ _ _ _ => pts_nil) (fun _ _ _ _ _ => (pe_tup (pa_cons (pv 1) (pa_cons (pe_callT C__law_cl_low (hr.mono (by decide)) (by rfl) pass0 (pa_cons (pe_ix (ix_tupK (K := K) rfl) (pe_dget (hu_of hr) (pv 0) (pv 1) (fun _ _ => rfl)) (pe_int) (fun _ _ => rfl)) (pa_cons (pe_ix (ix_tupK (K := K) rfl) (pe_dget (hu_of hr) (pv 0) (pv 1) (fun _ _ => rfl)) (pe_int) (fun _ _ => rfl)) pa_nil))) pa_nil))))) pa_nil)))), ?_⟩
    obtain ⟨v, hd, hv1⟩ := ha
    refine ⟨_, rfl, a, dh hs v, rfl, hd, fun a1 n1 => ?_⟩
    have e1 : (dh hs v).map (fun kv => kV kv.1) = (hs.map nm).map V.str := by rw [List.map_map, List.map_map]; rfl
    rw [e1]
    refine ⟨a1, hs.map nm, rfl, .of upd_same, by simp; omega, fun ys p pe so np => ?_⟩
    obtain ⟨l, rfl, pl⟩ := perm_nm pe hs rfl
    have s2 := (same_new (o := .lst ((hs.map nm).map V.str)) n1).trans (same_new (o := .lst ((l.map nm).map V.str)) np)
    have hp2 : (upd (upd H a1 (.lst ((hs.map nm).map V.str))) p (.lst ((l.map nm).map V.str))) p = some (.lst (l.map hv)) := by rw [map_hv]; exact upd_same
    generalize upd (upd H a1 (.lst ((hs.map nm).map V.str))) p (.lst ((l.map nm).map V.str)) = H2 at s2 hp2 ⊢
    refine ⟨p, rfl, ⟨_, .of hp2⟩, fun D nD => ?_⟩
    have lin : ∀ h ∈ l, h ∈ hs := fun h hh => pl.mem_iff.mp hh
    refine lcw (us := l) (fun _ v u => v = hv u) (IsPl fun h => lowF (fr h).1 (fr h).2) (fun _ => true) id (wk_hands (.of hp2)) (isPl_keep _) (by rw [pl.length_eq]; exact Nat.le_trans h6 (by decide)) ?_ nD ?_
    · rintro i _ u H3 QF QT hu rfl s3 _ qt
      have hm := lin u (mem_of i hu)
      have z := hz u hm
      obtain ⟨b, g, fb⟩ := RdK.get (h := u) (RdK.same (s2.trans s3) ⟨v, hd, hv1⟩) hm
      refine ⟨rfl, _, rfl, _, rfl, _, rfl, a, _, rfl, g, b, _, 0, _, rfl, rfl, .of fb, rfl, _, rfl, _, rfl, a, _, rfl, g, b, _, 1, _, rfl, rfl, .of fb, rfl, _, _, rfl, z.2.2, Nat.lt_of_lt_of_le z.2.1 (Nat.pow_le_pow_right (by decide) (by decide)), fun p3 H4 s4 n4 f4 => ?_⟩
      refine ⟨by show 2 ≤ sizeLine; decide, fun p5 n5 => ?_⟩
      have s5 := same_new (o := .tup [hv u, .ref p3]) n5
      exact qt rfl _ _ (s4.trans s5) ⟨p5, p3, rfl, upd_same, s5 _ _ f4⟩
    · intro ys H3 s3 hD hP
      rw [filter_all, List.map_id] at hP
      have ndl : l.Nodup := pl.nodup_iff.mpr nd
      obtain ⟨ps, v2, rfl, hps, hv2⟩ := pl_split hP ndl
      refine ⟨D, ps, dh l v2, rfl, .of hD, ?_, fun p6 n6 => ?_⟩
      · have : ∀ {ps : List Addr} {m : List Nat}, Paired (fun p h => H3 p = some (.tup [hv h, v2 h])) ps m → Paired (fun p kv => SqT K H3 p [kV kv.1, kv.2]) ps (dh m v2) := by
          intro ps m h
          induction h with
          | nil => exact .nil
          | cons h _ ih => exact .cons (.of h) ih
        exact this hps
      have em : mergeK [] (dh l v2) = dh l v2 := merge_dh v2 l [] ndl
      rw [em]
      have s6 := same_new (o := .dK (dh l v2)) n6
      have sAll := (s2.trans s3).trans s6
      exact q p6 _ l sAll ((s2.trans s3).free n6) pl ⟨v2, upd_same, fun h hh => let ⟨b, e1, e2⟩ := hv2 h hh; ⟨b, e1, s6 _ _ e2⟩⟩
end
end K80

set_option maxHeartbeats 4000000
/-! the law's check of a reading -/
namespace K80
open PySem PySem.Spec L2
open PyProof.Rows hiding St
abbrev s__law_cl_is_reading : Stmt := (topS 70)
theorem sc__law_cl_is_reading : FnScope ["_law_hands_here", "_law_thing", "_law_hand", "_law_part"] ["_law_hands_here", "_law_thing"] (defScope s__law_cl_is_reading) := ⟨rfl, rfl, rfl, by decide +kernel, rfl, by decide +kernel, by decide +kernel⟩
section
variable {P : Program} {w : World} {K : PySem.W.Frag} {mg : Str → Option Value} {base : Heap}
theorem eqv_strs (l : List Nat) : PyData.eqv (.list (l.map fun h => .str (nm h))) (.list (l.map fun h => .str (nm h))) = true := by
  have : ∀ l : List Nat, PyData.eqvAll (l.map fun h => .str (nm h)) (l.map fun h => .str (nm h)) = true := by
    intro l
    induction l with
    | nil => simp [PyData.eqvAll]
    | cons x l ih => simp [PyData.eqvAll, PyData.eqv] at ih ⊢; exact ih
  simp [PyData.eqv, this]
def spLIr : Sp := fun vs H Q _ => ∃ (l a : Addr) (hs : List Nat) (fr : Nat → Int × Int), vs = [.ref l, .ref a] ∧ H l = some (.lst (hs.map hv)) ∧ RdK H a hs fr ∧ hs.length ≤ 6 ∧ (∀ h ∈ hs, h < 6) ∧ (∀ h ∈ hs, Sz 2000 (fr h) ∧ lowF (fr h).1 (fr h).2 = fr h) ∧
  ∀ H', Same H H' → Q (.bl true) H'
theorem ok_l_is_reading (T : Txt K mg) : CallOk P w K mg base CX0 2 "_law_cl_is_reading" ["_law_hands_here", "_law_thing"] [] spLIr := by
  have C__law_cl_low : CallOk P w K mg base CX0 1 "_law_cl_low" ["_law_top", "_law_bottom"] [] spLowest := ok_l_low T
  refine def_ok (st := s__law_cl_is_reading) T 59 53 rfl rfl sc__law_cl_is_reading (fun _ _ _ _ _ _ us hl => match us, hl with | [_, _], _ => rfl) (fun vs H Q E h => ?_) (fun cdv f A outer s H vs Q E hr h => ?_)
  · obtain ⟨l, a, hs, fr, rfl, _⟩ := h
    rfl
  · obtain ⟨l, a, hs, fr, rfl, hl, ha, h6, hh6, hz, q⟩ := h
    refine ⟨_, PSs.nox (pss_cons (ps_if (PW.pt (pw_or (pt_not (pt_val (pe_callB (id := "isinstance") (call_isiK1 (K := K) rfl) (by rfl) T.f_isinstance (by decide +kernel) (pa_cons (pv 1) (pa_cons (pe_bltn (v := .ty "dict") (by rfl) T.f_dict (by decide +kernel) rfl) pa_nil))))) (pw_or1 (pt_cmpR (op_neDK (K := K) rfl (deep64 hr)) (pe_callTy (T := "list") (call_list_dK rfl) (by rfl) T.f_list (by decide +kernel) (pa_cons (pv 1) pa_nil)) (pv 0) (nomark _))))) (pss_one (ps_ret (pe_bl))) pss_nil)
      (pss_cons (ps_for PassesOwn.never rfl (pi_listK (K := K) rfl (pv 0)) (pg_name (i := 2) sc__law_cl_is_reading.nd rfl (.inl rfl))
      (pss_cons (ps_if (PW.pt (pw_or (pt_not (pt_val (pe_callB (id := "isinstance") (call_isiK1 (K := K) rfl) (by rfl) T.f_isinstance (by decide +kernel) (pa_cons (pe_dget (hu_of hr) (pv 1) (pv 2) (fun _ _ => rfl)) (pa_cons (pe_bltn (v := .ty "tuple") (by rfl) T.f_tuple (by decide +kernel) rfl) pa_nil))))) (pw_or1 (pt_cmpR op_ne (pe_callB (id := "len") (call_lenK (K := K) rfl) (by rfl) T.f_len (by decide +kernel) (pa_cons (pe_dget (hu_of hr) (pv 1) (pv 2) (fun _ _ => rfl)) pa_nil)) (pe_int) (nomark _))))) (pss_one (ps_ret (pe_bl))) pss_nil)
      (pss_cons (ps_if (pt_not (pt_val (pe_callB (id := "all") (cr_allK (K := K) rfl rfl) (by rfl) T.f_all (by decide +kernel) (pa_cons (pe_lc (own := [("_law_part", 3)]) (by rfl) sc__law_cl_is_reading.nd (pi_tupK (K := K) rfl (pe_dget (hu_of hr) (pv 1) (pv 2) (fun _ _ => rfl))) (blkOk_by (own := [("_law_part", 3)]) (N := ["_law_hands_here", "_law_thing", "_law_hand", "_law_part"]) (sc := defScope (topS 70)) (by decide +kernel)) (fun _ _ _ _ _ => (pg_name (i := 3) sc__law_cl_is_reading.nd rfl (.inl rfl))) (fun _ _ _ _ _ => pts_nil) (fun _ _ _ _ _ => (pe_and (pe_callB (id := "isinstance") (call_isiK1 (K := K) rfl) (by rfl) T.f_isinstance (by decide +kernel) (pa_cons (pv 3) (pa_cons (pe_bltn (v := .ty "int") (by rfl) T.f_int (by decide +kernel) rfl) pa_nil))) (pe_one (pe_not (pe_callB (id := "isinstance") (call_isiK1 (K := K) rfl) (by rfl) T.f_isinstance (by decide +kernel) (pa_cons (pv 3) (pa_cons (pe_bltn (v := .ty "bool") (by rfl) T.f_bool (by decide +kernel) rfl) pa_nil)))))))) pa_nil)))) (pss_one (ps_ret (pe_bl))) pss_nil)
      (pss_one (ps_if (PW.pt (pw_or (pt_cmpR op_lt (pe_ix (ix_tupK (K := K) rfl) (pe_dget (hu_of hr) (pv 1) (pv 2) (fun _ _ => rfl)) (pe_int) (fun _ _ => rfl)) (pe_int) (nomark _)) (pw_or1 (pt_cmpR (op_neDK (K := K) rfl (deep64 hr)) (pe_callT C__law_cl_low (hr.mono (by decide)) (by rfl) pass0 (pa_cons (pe_ix (ix_tupK (K := K) rfl) (pe_dget (hu_of hr) (pv 1) (pv 2) (fun _ _ => rfl)) (pe_int) (fun _ _ => rfl)) (pa_cons (pe_ix (ix_tupK (K := K) rfl) (pe_dget (hu_of hr) (pv 1) (pv 2) (fun _ _ => rfl)) (pe_int) (fun _ _ => rfl)) pa_nil))) (pe_dget (hu_of hr) (pv 1) (pv 2) (fun _ _ => rfl)) (nomark _))))) (pss_one (ps_ret (pe_bl))) pss_nil)))))
      (pss_one (ps_ret (pe_bl))))), ?_⟩
    obtain ⟨v, hd, hv1⟩ := id ha
    refine ⟨_, rfl, _, _, _, _, _, rfl, .ty "dict", (tyb_dK hd).1, kit1 (by decide) (by decide), _, rfl, ?_⟩
    refine ⟨_, rfl, a, dh hs v, rfl, hd, fun q1 n1 => ?_⟩
    have e1 : (dh hs v).map (fun kv => kV kv.1) = hs.map hv := by rw [List.map_map]; rfl
    rw [e1]
    have s1 := same_new (o := .lst (hs.map hv)) n1
    have sh1 : Sh 1 (.list (hs.map fun h => .str (nm h))) := sh_list fun d hd => by
      obtain ⟨h, hh, rfl⟩ := List.mem_map.mp hd
      exact sh_nm (hh6 h hh)
    refine ⟨_, rfl, .list (hs.map fun h => .str (nm h)), .list (hs.map fun h => .str (nm h)), .lst (.of upd_same) (dpAll_map fun x _ => .str _), .lst (.of (s1 _ _ hl)) (dpAll_map fun x _ => .str _), sh1.shaped (by decide), sh1.shaped (by decide), _, rfl, ?_⟩
    rw [eqv_strs]
    have hl1 := s1 _ _ hl
    have ha1 := ha.same s1
    generalize upd H q1 (.lst (hs.map hv)) = H1 at s1 hl1 ha1 ⊢
    refine ⟨_, rfl, l, rfl, ⟨_, .of hl1⟩, ?_⟩
    refine for_wk (wk_hands (.of hl1)) (fun i σ H' => (∃ x2 x3, σ = [some (.ref l), some (.ref a), x2, x3]) ∧ Same H1 H') ⟨⟨_, _, rfl⟩, .refl _⟩ (fun _ _ _ h => h.2) ?_ ?_
    · rintro i u _ σ H0 H2 hu ⟨⟨x2, x3, rfl⟩, s0⟩ s02 rfl
      have s2 := s0.trans s02
      have hm := mem_of i hu
      obtain ⟨z, lo⟩ := hz u hm
      obtain ⟨b, g, fb⟩ := (ha1.same s2).get hm
      refine ⟨_, rfl, _, rfl, a, _, rfl, g, _, _, _, _, _, rfl, .ty "tuple", (tyb_tup fb).1, kit1 (by decide) (by decide), _, rfl, ?_⟩
      refine ⟨_, rfl, _, rfl, a, _, rfl, g, _, _, rfl, .inr ⟨_, .of fb, rfl⟩, rfl, _, rfl, ?_⟩
      have e2 : (!decide (V.int (([V.int (fr u).1, V.int (fr u).2] : List V).length : Nat) = V.int 2)) = false := by simp
      rw [e2]
      refine ⟨_, rfl, _, rfl, a, _, rfl, g, b, rfl, ⟨_, .of fb⟩, fun D nD => ?_⟩
      refine lcw (us := [(fr u).1, (fr u).2]) (fun _ v u => v = .int u) (fun _ v u => v = .bl u) (fun _ => true) (fun _ => true) (wk_tup (.of fb) (.cons rfl (.cons rfl .nil)) fun _ _ _ _ _ h => h) (fun _ _ _ _ _ h => h) (by show 2 ≤ 1000000; decide) ?_ nD ?_
      · rintro j _ y H3 QF QT hj rfl s3 _ qt
        refine ⟨rfl, _, rfl, _, _, _, _, _, rfl, .ty "int", tyb_int.1, kit1 (by decide) (by decide), _, rfl, ?_⟩
        refine ⟨_, rfl, _, _, _, _, _, rfl, .ty "bool", tyb_int.1, kit1 (by decide) (by decide), _, rfl, ?_⟩
        exact qt rfl _ _ (.refl _) rfl
      · intro ys H3 s3 hD hP
        have e : ys = ([(fr u).1, (fr u).2].map fun _ => true).map V.bl := by
          rw [filter_all] at hP
          exact pr_eq V.bl hP
        subst e
        refine ⟨D, _, rfl, .of hD, _, rfl, ?_⟩
        have s13 := s2.trans s3
        obtain ⟨b2, g2, f2⟩ := (ha1.same s13).get hm
        refine ⟨_, rfl, _, rfl, a, _, rfl, g2, b2, _, 1, _, rfl, rfl, .of f2, rfl, _, _, rfl, rfl, _, rfl, ?_⟩
        have e3 : decide ((fr u).2 < 1) = false := by
          have := z.2.2
          exact decide_eq_false (by omega)
        rw [e3]
        refine ⟨_, rfl, _, rfl, a, _, rfl, g2, b2, _, 0, _, rfl, rfl, .of f2, rfl, _, rfl, _, rfl, a, _, rfl, g2, b2, _, 1, _, rfl, rfl, .of f2, rfl, _, _, rfl, z.2.2, Nat.lt_of_lt_of_le z.2.1 (Nat.pow_le_pow_right (by decide) (by decide)), fun p3 H4 s4 n4 f4 => ?_⟩
        obtain ⟨b5, g5, f5⟩ := (ha1.same (s13.trans s4)).get hm
        have f4' : FrAt H4 p3 (lowF (fr u).1 (fr u).2) := f4
        rw [lo] at f4'
        refine ⟨_, rfl, _, rfl, a, _, rfl, g5, dFr (fr u), dFr (fr u), dp_fr f4', dp_fr f5, sh_fr.shaped (by decide), sh_fr.shaped (by decide), _, rfl, ?_⟩
        have e4 : PyData.eqv (dFr (fr u)) (dFr (fr u)) = true := by
          show PyData.eqv (.tuple [.int (fr u).1, .int (fr u).2]) (.tuple [.int (fr u).1, .int (fr u).2]) = true
          simp [PyData.eqv, PyData.eqvAll]
        rw [e4]
        exact ⟨⟨_, _, rfl⟩, s13.trans s4⟩
    · rintro σ H2 ⟨⟨x2, x3, rfl⟩, s2⟩
      exact q _ (s1.trans s2)
end
end K80

set_option maxHeartbeats 4000000
/-! the law's check of a broken answer -/
namespace K80
open PySem PySem.Spec L2
open PyProof.Rows hiding St
abbrev s__law_broken_right : Stmt := (topS 76)
theorem sc__law_broken_right : FnScope ["_law_drawn", "_law_taken", "_law_far", "_law_broken", "_law_bound", "_law_hands_here", "_law_roads", "_law_letters", "_law_offsets", "_law_one", "_law_other", "_law_differ"] ["_law_drawn", "_law_taken", "_law_far", "_law_broken", "_law_bound"] (defScope s__law_broken_right) := ⟨rfl, rfl, rfl, by decide +kernel, rfl, by decide +kernel, by decide +kernel⟩
section
variable {P : Program} {w : World} {K : PySem.W.Frag} {mg : Str → Option Value} {base : Heap}
/-- what the check needs: offsets that can be, far apart by b at least -/
def spLBr : Sp := fun vs H Q _ => ∃ (d t p l r a o : Addr) (i j : Nat) (far : Int) (bd : V) (b : Int × Int) (hs ts : List Nat) (ks : List (Nat × Nat)) (rd : Nat × Nat → Int × Option Int) (ls : List Lt) (fo ft : Nat → Int × Int),
  vs = [.ref d, .ref t, .int far, .ref p, bd] ∧ H d = some (.tup [.ref l, .ref r, .ref a]) ∧ H p = some (.tup [.ref o, hv i, hv j]) ∧ H l = some (.lst (hs.map hv)) ∧ RdKept H r ks rd ∧ LtKept H a ls ∧ RdK H o hs fo ∧ RdK H t ts ft ∧
  ((bd = .non ∧ b = (far, 1)) ∨ ∃ c, bd = .ref c ∧ FrAt H c b) ∧
  (hs.length ≤ 6 ∧ (∀ h ∈ hs, h < 6) ∧ (∀ h ∈ hs, Sz 2000 (fo h) ∧ lowF (fo h).1 (fo h).2 = fo h)) ∧ i ∈ hs ∧ j ∈ hs ∧ i ≠ j ∧
  ((∀ l ∈ ls, l.k ∈ ks) ∧ (∀ k ∈ ks, k.1 ∈ hs ∧ k.2 ∈ hs) ∧ ∀ l ∈ ls, CanL rd fo l) ∧
  (ts.Nodup ∧ ts.length ≤ 6 ∧ (∀ h ∈ ts, h < 6) ∧ (∀ h ∈ ts, Sz 2000 (ft h)) ∧ ∀ h, h ∈ ts ↔ h ∈ hs) ∧
  ((Sz 2000 (lowF (ft i).1 (ft i).2) ∧ Sz 2000 (lowF (ft j).1 (ft j).2)) ∧ (Sz 2000 (lessF (fo i) (lowF (ft i).1 (ft i).2)) ∧ Sz 2000 (lessF (fo j) (lowF (ft j).1 (ft j).2))) ∧ Sz 2000 b ∧ Sz 2000 (apF (fo i) (lowF (ft i).1 (ft i).2) (fo j) (lowF (ft j).1 (ft j).2)) ∧
    belowF (apF (fo i) (lowF (ft i).1 (ft i).2) (fo j) (lowF (ft j).1 (ft j).2)) b = false) ∧ ∀ H', Same H H' → Q (.bl true) H'
theorem ok_l_broken (T : Txt K mg) : CallOk P w K mg base CX0 4 "_law_broken_right" ["_law_drawn", "_law_taken", "_law_far", "_law_broken", "_law_bound"] [] spLBr := by
  have C__law_cl_is_reading : CallOk P w K mg base CX0 2 "_law_cl_is_reading" ["_law_hands_here", "_law_thing"] [] spLIr := ok_l_is_reading T
  have C__law_cl_can : CallOk P w K mg base CX0 3 "_law_cl_can" ["_law_roads", "_law_letters", "_law_offsets"] [] spLCan := ok_l_can T
  have C__law_cl_plain : CallOk P w K mg base CX0 2 "_law_cl_plain" ["_law_reading"] [] spLPl := ok_l_plain T
  have C__law_cl_apart : CallOk P w K mg base CX0 3 "_law_cl_apart" ["_law_offsets", "_law_taken", "_law_one", "_law_other"] [] (spLApart K) := ok_l_apart T
  have C__law_cl_below : CallOk P w K mg base CX0 1 "_law_cl_below" ["_law_one", "_law_other"] [] spBelow := ok_l_below T
  refine def_ok (st := s__law_broken_right) T 65 59 rfl rfl sc__law_broken_right (fun _ _ _ _ _ _ us hl => match us, hl with | [_, _, _, _, _], _ => rfl) (fun vs H Q E h => ?_) (fun cdv f A outer s H vs Q E hr h => ?_)
  · obtain ⟨d, t, p, l, r, a, o, i, j, far, bd, b, hs, ts, ks, rd, ls, fo, ft, rfl, _⟩ := h
    rfl
  · obtain ⟨d, t, p, l, r, a, o, i, j, far, bd, b, hs, ts, ks, rd, ls, fo, ft, rfl, hd, hp, hl, hr1, ha, ho, ht, hb, ⟨z1, z2, z3⟩, hi, hj, hij, ⟨c1, c2, c3⟩, ⟨t1, t2, t3, t4, t5⟩, ⟨⟨y1, y2⟩, y3, y4, y5, nb⟩, q⟩ := h
    refine ⟨_, PSs.nox (pss_cons (ps_asg (pv 0) (pg_tupK (K := K) rfl rfl (pgs_cons (pg_name (i := 5) sc__law_broken_right.nd rfl (.inl rfl)) (pgs_cons (pg_name (i := 6) sc__law_broken_right.nd rfl (.inl rfl)) (pgs_cons (pg_name (i := 7) sc__law_broken_right.nd rfl (.inl rfl)) pgs_nil)))))
      (pss_cons (ps_if (PW.pt (pw_or (pt_not (pt_val (pe_callB (id := "isinstance") (call_isiK1 (K := K) rfl) (by rfl) T.f_isinstance (by decide +kernel) (pa_cons (pv 3) (pa_cons (pe_bltn (v := .ty "tuple") (by rfl) T.f_tuple (by decide +kernel) rfl) pa_nil))))) (pw_or1 (pt_cmpR op_ne (pe_callB (id := "len") (call_lenK (K := K) rfl) (by rfl) T.f_len (by decide +kernel) (pa_cons (pv 3) pa_nil)) (pe_int) (nomark _))))) (pss_one (ps_ret (pe_bl))) pss_nil)
      (pss_cons (ps_asg (pv 3) (pg_tupK (K := K) rfl rfl (pgs_cons (pg_name (i := 8) sc__law_broken_right.nd rfl (.inl rfl)) (pgs_cons (pg_name (i := 9) sc__law_broken_right.nd rfl (.inl rfl)) (pgs_cons (pg_name (i := 10) sc__law_broken_right.nd rfl (.inl rfl)) pgs_nil)))))
      (pss_cons (ps_if (PW.pt (pw_or (pt_not (pt_val (pe_callT C__law_cl_is_reading (hr.mono (by decide)) (by rfl) pass0 (pa_cons (pv 5) (pa_cons (pv 8) pa_nil))))) (pw_or (pt_cmpR op_eq (pv 9) (pv 10) (nomark _)) (pw_or (pt_cmpR (op_niK (K := K) rfl) (pv 9) (pv 5) (by rfl)) (pw_or1 (pt_cmpR (op_niK (K := K) rfl) (pv 10) (pv 5) (by rfl))))))) (pss_one (ps_ret (pe_bl))) pss_nil)
      (pss_cons (ps_if (pt_not (pt_val (pe_callT C__law_cl_can (hr.mono (by decide)) (by rfl) pass0 (pa_cons (pv 6) (pa_cons (pv 7) (pa_cons (pv 8) pa_nil)))))) (pss_one (ps_ret (pe_bl))) pss_nil)
      (pss_cons (ps_set (i := 11) sc__law_broken_right.nd rfl (.inl rfl) (pe_callT C__law_cl_apart (hr.mono (by decide)) (by rfl) pass0 (pa_cons (pv 8) (pa_cons (pe_callT C__law_cl_plain (hr.mono (by decide)) (by rfl) pass0 (pa_cons (pv 1) pa_nil)) (pa_cons (pv 9) (pa_cons (pv 10) pa_nil))))))
      (pss_one (ps_ret (pe_not (pe_callT C__law_cl_below (hr.mono (by decide)) (by rfl) pass0 (pa_cons (pv 11) (pa_cons (pe_ifExp (pt_cmpR op_isN (pv 4) (pe_non) (nomark _)) (pe_tup (pa_cons (pv 2) (pa_cons (pe_int) pa_nil))) (pv 4)) pa_nil)))))))))))), ?_⟩
    refine ⟨_, rfl, d, [.ref l, .ref r, .ref a], rfl, .of hd, rfl, _, _, rfl, _, _, rfl, _, _, rfl, rfl, ?_⟩
    refine ⟨_, rfl, _, _, _, _, _, rfl, .ty "tuple", (tyb_tup hp).1, kit1 (by decide) (by decide), _, rfl, ?_⟩
    refine ⟨_, rfl, _, _, rfl, .inr ⟨_, .of hp, rfl⟩, rfl, _, rfl, ?_⟩
    have e2 : (!decide (V.int (([V.ref o, hv i, hv j] : List V).length : Nat) = V.int 3)) = false := by simp
    rw [e2]
    refine ⟨_, rfl, p, [.ref o, hv i, hv j], rfl, .of hp, rfl, _, _, rfl, _, _, rfl, _, _, rfl, rfl, ?_⟩
    refine ⟨_, rfl, _, rfl, l, o, hs, fo, rfl, hl, ho, z1, z2, z3, fun H1 s1 => ?_⟩
    have eij : decide (hv i = hv j) = false := decide_eq_false fun e => hij (hv_inj e)
    refine ⟨_, rfl, _, rfl, _, rfl, rfl, _, rfl, ?_⟩
    rw [eij]
    have hl1 := s1 _ _ hl
    refine ⟨_, rfl, _, rfl, l, hs.map hv, rfl, .inl (.of hl1), rfl, flat_hv hs, _, rfl, ?_⟩
    rw [if_pos rfl, inV_hv, decide_eq_true hi]
    refine ⟨_, rfl, _, rfl, l, hs.map hv, rfl, .inl (.of hl1), rfl, flat_hv hs, _, rfl, ?_⟩
    rw [if_pos rfl, inV_hv, decide_eq_true hj]
    refine ⟨_, rfl, _, rfl, _, rfl, r, a, o, ks, rd, ls, hs, fo, rfl, hr1.same s1, ha.same s1, ho.same s1, c1, c2, c3, fun H2 s2 => ?_⟩
    refine ⟨_, rfl, ?_⟩
    have s12 := s1.trans s2
    refine ⟨_, rfl, _, rfl, t, ts, ft, rfl, ht.same s12, t1, t2, t3, t4, fun p3 H3 hs' s3 n3 pm r3 => ?_⟩
    have s13 := s12.trans s3
    have mm : ∀ h, h ∈ hs → h ∈ hs' := fun h hh => pm.mem_iff.mpr ((t5 h).mpr hh)
    refine ⟨_, rfl, _, rfl, o, p3, hs, hs', fo, _, i, j, rfl, ho.same s13, r3, ⟨hi, hj, mm i hi, mm j hj⟩, ⟨(z3 i hi).1, y1, (z3 j hj).1, y2⟩, y3, fun p4 H4 s4 n4 f4 => ?_⟩
    have s14 := s13.trans s4
    refine ⟨_, rfl, _, rfl, rfl, _, rfl, ?_⟩
    rcases hb with ⟨rfl, rfl⟩ | ⟨c, rfl, hc⟩
    · refine ⟨_, rfl, by show 2 ≤ sizeLine; decide, fun p5 n5 => ?_⟩
      have s5 := same_new (o := .tup [.int far, .int 1]) n5
      refine ⟨p4, p5, _, (far, 1), rfl, s5 _ _ f4, upd_same, y5, y4, _, rfl, ?_⟩
      rw [nb]
      exact q _ (s14.trans s5)
    · refine ⟨_, rfl, p4, c, _, b, rfl, f4, s14 _ _ hc, y5, y4, _, rfl, ?_⟩
      rw [nb]
      exact q _ s14
end
end K80

set_option maxHeartbeats 4000000
/-! the law's corrections -/
namespace K80
open PySem PySem.Spec L2
open PyProof.Rows hiding St
abbrev s__law_correction : Stmt := (topS 75)
theorem sc__law_correction : FnScope ["_law_way", "_law_seed", "_law_seen", "_law_hand", "_law_hands_here", "_law_found", "_law_one", "_law_sent", "_law_other", "_law_heard", "_law_number"] ["_law_way", "_law_seed", "_law_seen"] (defScope s__law_correction) := ⟨rfl, rfl, rfl, by decide +kernel, rfl, by decide +kernel, by decide +kernel⟩
section
variable {P : Program} {w : World} {K : PySem.W.Frag} {mg : Str → Option Value} {base : Heap}
/-- the first sign's number of a hand's name -/
def ordF (h : Nat) : Int := (hdc h : Nat)
def cor1 (W : Wd) : Nat → Int × Int := W.ls.foldl (fun fr l => fun h => if h = l.other then ((fr l.one).1 + l.heard - l.sent, 1) else fr h) fun _ => (0, 1)
def num0 (seed : Int) (W : Wd) : Int := W.ls.foldl (fun n l => (n * 31 + l.heard - l.sent + ordF l.other) % 100003) (seed + 11 * (W.ks.length : Nat))
def corN (way : Int) (n : Int) (hs : List Nat) : Int × (Nat → Int × Int) := hs.foldl (fun s h => let m := (s.1 * 37 + ordF h) % 100003; (m, fun x => if x = h then (m % 23 - 11, way - 1) else s.2 x)) (n, fun _ => (0, 1))
/-- what the law's correction answers -/
def corrF (way seed : Int) (W : Wd) : Nat → Int × Int := if way = 1 then cor1 W else if 1 < way then (corN way (num0 seed W) W.hs).2 else fun _ => (0, 1)
def spLCor : Sp := fun vs H Q _ => ∃ (way seed : Int) (s : Addr) (W : Wd), vs = [.int way, .int seed, .ref s] ∧ 0 ≤ way ∧ way < 6 ∧ (0 ≤ seed ∧ seed < 1000 ∧ W.ks.length ≤ 1000 ∧ ∀ h ∈ W.hs, h < 6) ∧ ToldAt H s W ∧ W.hs.Nodup ∧ W.hs.length ≤ 6 ∧ (∀ l ∈ W.ls, l.one ∈ W.hs ∧ l.other ∈ W.hs) ∧
  ∀ p H', Same H H' → H p = none → RdK H' p W.hs (corrF way seed W) → Q (.ref p) H'
theorem ok_l_cor (T : Txt K mg) : CallOk P w K mg base CX0 1 "_law_correction" ["_law_way", "_law_seed", "_law_seen"] [] spLCor := by
  refine def_ok (st := s__law_correction) T 64 58 rfl rfl sc__law_correction (fun _ _ _ _ _ _ us hl => match us, hl with | [_, _, _], _ => rfl) (fun vs H Q E h => ?_) (fun cdv f A outer s H vs Q E hr h => ?_)
  · obtain ⟨way, seed, s, W, rfl, _⟩ := h
    rfl
  · obtain ⟨way, seed, s0, W, rfl, w0, w6, ⟨sd0, sd1, kz, hh6⟩, hs, nd, h6, hin, q⟩ := h
    refine ⟨_, PSs.nox (pss_cons (ps_par (i := 4) (j := 5) (by rfl) sc__law_correction.nd rfl rfl (by decide) rfl rfl (pa_cons (pe_ix (ix_tupK (K := K) rfl) (pv 2) (pe_int) (fun _ _ => rfl)) (pa_cons (pe_callTy (T := "dict") (call_dictP rfl) (by rfl) T.f_dict (by decide +kernel) (pa_cons (pe_lc (own := [("_law_hand", 3)]) (by rfl) sc__law_correction.nd (pi_tupK (K := K) rfl (pe_ix (ix_tupK (K := K) rfl) (pv 2) (pe_int) (fun _ _ => rfl))) (blkOk_by (own := [("_law_hand", 3)]) (N := ["_law_way", "_law_seed", "_law_seen", "_law_hand", "_law_hands_here", "_law_found", "_law_one", "_law_sent", "_law_other", "_law_heard", "_law_number"]) (sc := defScope (topS 75)) (by decide +kernel)) (fun _ _ _ _ _ => (pg_name (i := 3) sc__law_correction.nd rfl (.inl rfl))) (fun _ _ _ _ _ => pts_nil) (fun _ _ _ _ _ => (pe_tup (pa_cons (pv 3) (pa_cons (pe_tup (pa_cons (pe_int) (pa_cons (pe_int) pa_nil))) pa_nil))))) pa_nil)) pa_nil)) (by rfl))
      (pss_cons (ps_if (pt_cmpR op_eq (pv 0) (pe_int) (nomark _)) (pss_one (ps_for PassesOwn.never rfl (pi_tupK (K := K) rfl (pe_ix (ix_tupK (K := K) rfl) (pv 2) (pe_int) (fun _ _ => rfl))) (pg_tupK (K := K) rfl rfl (pgs_cons (pg_name (i := 6) sc__law_correction.nd rfl (.inl rfl)) (pgs_cons (pg_name (i := 7) sc__law_correction.nd rfl (.inl rfl)) (pgs_cons (pg_name (i := 8) sc__law_correction.nd rfl (.inl rfl)) (pgs_cons (pg_name (i := 9) sc__law_correction.nd rfl (.inl rfl)) pgs_nil)))))
      (pss_one (ps_dput (hu_of hr) (pv 5) (pv 8) (pe_tup (pa_cons (pe_op op_sub (pe_op op_add (pe_ix (ix_tupK (K := K) rfl) (pe_dget (hu_of hr) (pv 5) (pv 6) (fun _ _ => rfl)) (pe_int) (fun _ _ => rfl)) (pv 9)) (pv 7)) (pa_cons (pe_int) pa_nil))) rfl)))) (pss_one (ps_if (pt_cmpR op_gt (pv 0) (pe_int) (nomark _)) (pss_cons (ps_set (i := 10) sc__law_correction.nd rfl (.inl rfl) (pe_op op_add (pv 1) (pe_op op_mulW (pe_int) (pe_callB (id := "len") (call_lenK (K := K) rfl) (by rfl) T.f_len (by decide +kernel) (pa_cons (pe_ix (ix_tupK (K := K) rfl) (pv 2) (pe_int) (fun _ _ => rfl)) pa_nil)))))
      (pss_cons (ps_for PassesOwn.never rfl (pi_tupK (K := K) rfl (pe_ix (ix_tupK (K := K) rfl) (pv 2) (pe_int) (fun _ _ => rfl))) (pg_tupK (K := K) rfl rfl (pgs_cons (pg_name (i := 6) sc__law_correction.nd rfl (.inl rfl)) (pgs_cons (pg_name (i := 7) sc__law_correction.nd rfl (.inl rfl)) (pgs_cons (pg_name (i := 8) sc__law_correction.nd rfl (.inl rfl)) (pgs_cons (pg_name (i := 9) sc__law_correction.nd rfl (.inl rfl)) pgs_nil)))))
      (pss_one (ps_set (i := 10) sc__law_correction.nd rfl (.inl rfl) (pe_op op_mod (pe_callTy (T := "int") call_int1 (by rfl) T.f_int (by decide +kernel) (pa_cons (pe_op op_add (pe_op op_sub (pe_op op_add (pe_op op_mulW (pv 10) (pe_int)) (pv 9)) (pv 7)) (pe_callB (id := "ord") call_ord (by rfl) T.f_ord (by decide +kernel) (pa_cons (pe_ix ix_str (pv 8) (pe_int) (fun _ _ => rfl)) pa_nil))) pa_nil)) (pe_int)))))
      (pss_one (ps_for PassesOwn.never rfl (pi_tupK (K := K) rfl (pv 4)) (pg_name (i := 3) sc__law_correction.nd rfl (.inl rfl))
      (pss_cons (ps_set (i := 10) sc__law_correction.nd rfl (.inl rfl) (pe_op op_mod (pe_callTy (T := "int") call_int1 (by rfl) T.f_int (by decide +kernel) (pa_cons (pe_op op_add (pe_op op_mulW (pv 10) (pe_int)) (pe_callB (id := "ord") call_ord (by rfl) T.f_ord (by decide +kernel) (pa_cons (pe_ix ix_str (pv 3) (pe_int) (fun _ _ => rfl)) pa_nil))) pa_nil)) (pe_int)))
      (pss_one (ps_dput (hu_of hr) (pv 5) (pv 3) (pe_tup (pa_cons (pe_op op_sub (pe_op op_mod (pe_callTy (T := "int") call_int1 (by rfl) T.f_int (by decide +kernel) (pa_cons (pv 10) pa_nil)) (pe_int)) (pe_int)) (pa_cons (pe_ix (ix_listK (K := K) rfl) (pe_lst (pa_cons (pe_int) (pa_cons (pe_int) (pa_cons (pe_int) (pa_cons (pe_int) pa_nil))))) (pe_op op_sub (pv 0) (pe_int)) (fun _ _ => rfl)) pa_nil))) rfl))))))) pss_nil)))
      (pss_one (ps_ret (pv 5))))), ?_⟩
    obtain ⟨a, b, c, hs0, ha, ⟨xb, hb, pb⟩, ys, hc, pc⟩ := hs
    refine ⟨_, rfl, s0, _, 0, _, rfl, rfl, .of hs0, rfl, _, rfl, s0, _, 0, _, rfl, rfl, .of hs0, rfl, a, rfl, ⟨_, .of ha⟩, fun D nD => ?_⟩
    refine lcw (us := W.hs) (fun _ v u => v = hv u) (IsPl fun _ => (0, 1)) (fun _ => true) id (wk_tup (.of ha) (pr_map hv W.hs) fun _ _ _ _ _ h => h) (isPl_keep _) (Nat.le_trans h6 (by decide)) ?_ nD ?_
    · rintro i _ u H3 QF QT hu rfl s3 _ qt
      refine ⟨rfl, _, rfl, by show 2 ≤ sizeLine; decide, fun p1 n1 => ⟨by show 2 ≤ sizeLine; decide, fun p2 n2 => ?_⟩⟩
      have s4 := same_new (o := .tup [.int 0, .int 1]) n1
      have s5 := same_new (o := .tup [hv u, .ref p1]) n2
      exact qt rfl _ _ (s4.trans s5) ⟨p2, p1, rfl, upd_same, s5 _ _ upd_same⟩
    · intro zs H3 s3 hD hP
      rw [filter_all, List.map_id] at hP
      obtain ⟨ps, v2, rfl, hps, hv2⟩ := pl_split hP nd
      refine ⟨D, ps, dh W.hs v2, rfl, .of hD, ?_, fun F nF => ?_⟩
      · have : ∀ {ps : List Addr} {m : List Nat}, Paired (fun p h => H3 p = some (.tup [hv h, v2 h])) ps m → Paired (fun p kv => SqT K H3 p [kV kv.1, kv.2]) ps (dh m v2) := by
          intro ps m h
          induction h with
          | nil => exact .nil
          | cons h _ ih => exact .cons (.of h) ih
        exact this hps
      rw [show mergeK [] (dh W.hs v2) = dh W.hs v2 from merge_dh v2 W.hs [] nd]
      refine ⟨_, _, rfl, ?_⟩
      have sF := same_new (o := .dK (dh W.hs v2)) nF
      have r0 : RdK (upd H3 F (.dK (dh W.hs v2))) F W.hs fun _ => (0, 1) := ⟨v2, upd_same, fun h hh => let ⟨b, e1, e2⟩ := hv2 h hh; ⟨b, e1, sF _ _ e2⟩⟩
      have nFH : H F = none := s3.free nF
      have s0F : Same H (upd H3 F (.dK (dh W.hs v2))) := s3.trans sF
      generalize upd H3 F (.dK (dh W.hs v2)) = H4 at sF r0 s0F ⊢
      refine ⟨_, rfl, rfl, _, rfl, ?_⟩
      by_cases w1 : way = 1
      · subst w1
        rw [decide_eq_true rfl]
        refine ⟨_, rfl, s0, _, 2, _, rfl, rfl, .of (s0F _ _ hs0), rfl, c, rfl, ⟨_, .of (s0F _ _ hc)⟩, ?_⟩
        refine for_tup (xs := ys) (fun i σ H' => (∃ x3 x6 x7 x8 x9 x10, σ = [some (.int 1), some (.int seed), some (.ref s0), x3, some (.ref a), some (.ref F), x6, x7, x8, x9, x10]) ∧ SameB F H4 H' ∧ RdK H' F W.hs ((W.ls.take i).foldl (fun fr l => fun h => if h = l.other then ((fr l.one).1 + l.heard - l.sent, 1) else fr h) fun _ => (0, 1)))
          ⟨⟨_, _, _, _, _, _, rfl⟩, .refl, r0⟩ ?_ ?_ ?_
        · intro i σ H' _ ⟨_, sm, _⟩
          exact .of (sm _ _ (ne_of_none hc nFH) (s0F _ _ hc))
        · rintro i x σ H5 hx ⟨⟨x3, x6, x7, x8, x9, x10, rfl⟩, sm, hR⟩
          obtain ⟨l, hl, b1, rfl, hb1⟩ := pr_getL pc hx
          obtain ⟨i1, i2⟩ := hin l (mem_of i hl)
          have hb5 := sm _ _ (ne_of_none hb1 nFH) (s0F _ _ hb1)
          rw [foldl_take_succ hl]
          obtain ⟨fr, efr⟩ : ∃ fr, fr = (W.ls.take i).foldl (fun (fr : Nat → Int × Int) (l : Lt) => fun h => if h = l.other then ((fr l.one).1 + l.heard - l.sent, 1) else fr h) (fun _ => (0, 1)) := ⟨_, rfl⟩
          rw [← efr] at hR ⊢
          clear efr
          refine ⟨b1, Lt.v l, rfl, .of hb5, rfl, _, _, rfl, _, _, rfl, _, _, rfl, _, _, rfl, rfl, ?_⟩
          obtain ⟨b2, g, f2⟩ := hR.get i1
          refine ⟨_, rfl, _, rfl, F, _, rfl, g, b2, _, 0, _, rfl, rfl, .of f2, rfl, _, rfl, _, _, rfl, rfl, _, rfl, _, _, rfl, rfl, by show 2 ≤ sizeLine; decide, fun p5 n5 => ?_⟩
          have s5 := same_new (o := .tup [.int ((fr l.one).1 + l.heard - l.sent), .int 1]) n5
          obtain ⟨v5, h5, k5⟩ := hR
          have h6' := s5 _ _ h5
          refine ⟨_, rfl, _, rfl, F, _, rfl, .inl ⟨_, hk1 l.other, h6', rfl, small1000 (by show (dh W.hs v5).length ≤ 1000; rw [List.length_map]; omega), rfl⟩, ⟨_, _, _, _, _, _, rfl⟩, (sm.trans (sameB_of s5)).trans sameB_upd, ?_⟩
          rw [put_dh _ i2]
          refine ⟨_, upd_same, fun h hh => ?_⟩
          have kt := keepT_upd (o := .dK (dh W.hs fun x => if x = l.other then V.ref p5 else v5 x)) h6' fun _ z => by cases z
          by_cases e : h = l.other
          · subst e
            refine ⟨p5, if_pos rfl, ?_⟩
            show FrAt _ p5 (if l.other = l.other then _ else _)
            rw [if_pos rfl]
            exact kt _ _ upd_same
          · obtain ⟨b6, e1, e2⟩ := k5 h hh
            refine ⟨b6, (if_neg e).trans e1, ?_⟩
            show FrAt _ b6 (if h = l.other then _ else _)
            rw [if_neg e]
            exact kt _ _ (s5 _ _ e2)
        · rintro σ H5 ⟨⟨x3, x6, x7, x8, x9, x10, rfl⟩, sm, hR⟩
          rw [pc.length, List.take_length] at hR
          exact ⟨_, rfl, q F H5 ((sameB_of s0F).trans sm |>.new nFH) nFH hR⟩
      · rw [decide_eq_false fun e => w1 (by injection e)]
        refine ⟨_, rfl, _, _, rfl, rfl, _, rfl, ?_⟩
        by_cases w2 : 1 < way
        · rw [decide_eq_true w2]
          have s4 : Same H H4 := s0F
          refine ⟨_, rfl, _, rfl, s0, _, 1, _, rfl, rfl, .of (s0F _ _ hs0), rfl, _, _, rfl, .inr ⟨xb, .of (s0F _ _ hb), rfl⟩, _, _, rfl, rfl, wide_mul (a := 4) (b := 10) (by decide) (by show xb.length < 2 ^ 10; rw [pb.length]; omega) (by decide) (by decide) (by decide), _, _, rfl, rfl, ?_⟩
          have o1 : ∀ h ∈ W.hs, hdc h < 1000 := by
            have : ∀ h, h < 6 → hdc h < 1000 := by decide
            exact fun h hh => this h (hh6 h hh)
          have o2 : ∀ h, h < 6 → 1 ≤ (nm h).length ∧ (nm h).length ≤ sizeLine ∧ atI (nm h).cps.toList (0 : Int) = some (hdc h) := fun h hh => let ⟨a, b, _⟩ := nm_len h hh; ⟨a, Nat.le_trans b (by decide), atI_nat (j := 0) rfl⟩
          have n0 : (0 : Int) ≤ seed + 11 * (xb.length : Nat) ∧ seed + 11 * (xb.length : Nat) < 100003 := by
            have := pb.length
            omega
          have ex : (xb.length : Nat) = W.ks.length := pb.length
          refine ⟨_, rfl, s0, _, 2, _, rfl, rfl, .of (s0F _ _ hs0), rfl, c, rfl, ⟨_, .of (s0F _ _ hc)⟩, ?_⟩
          refine for_tup (xs := ys) (fun i σ H' => (∃ x3 x6 x7 x8 x9 n, σ = [some (.int way), some (.int seed), some (.ref s0), x3, some (.ref a), some (.ref F), x6, x7, x8, x9, some (.int n)] ∧ n = (W.ls.take i).foldl (fun n l => (n * 31 + l.heard - l.sent + ordF l.other) % 100003) (seed + 11 * (W.ks.length : Nat)) ∧ 0 ≤ n ∧ n < 100003) ∧ H' = H4)
            ⟨⟨_, _, _, _, _, _, rfl, by rw [ex]; rfl, n0.1, n0.2⟩, rfl⟩ ?_ ?_ ?_
          · rintro i σ H' _ ⟨_, rfl⟩
            exact .of (s0F _ _ hc)
          · rintro i x σ H5 hx ⟨⟨x3, x6, x7, x8, x9, n, rfl, en, na, nb⟩, rfl⟩
            obtain ⟨l, hl, b1, rfl, hb1⟩ := pr_getL pc hx
            obtain ⟨i1, i2⟩ := hin l (mem_of i hl)
            rw [foldl_take_succ hl, ← en]
            refine ⟨b1, Lt.v l, rfl, .of (s0F _ _ hb1), rfl, _, _, rfl, _, _, rfl, _, _, rfl, _, _, rfl, rfl, ?_⟩
            obtain ⟨l1, l8, l0⟩ := o2 l.other (hh6 _ i2)
            refine ⟨_, rfl, _, _, rfl, rfl, wide_mul (a := 17) (b := 5) (by omega) (by decide) (by decide) (by decide) (by decide), _, rfl, _, _, rfl, rfl, _, rfl, _, _, rfl, rfl, _, rfl, _, 0, hdc l.other, rfl, rfl, l8, l0, _, rfl, rfl, _, _, rfl, rfl, .inl ⟨_, rfl, _, _, rfl, rfl, by show (0 : Int) < 100003; decide, ?_⟩⟩
            exact ⟨⟨_, _, _, _, _, _, rfl, rfl, Int.emod_nonneg _ (by decide), Int.emod_lt_of_pos _ (by decide)⟩, rfl⟩
          · rintro σ H5 ⟨⟨x3, x6, x7, x8, x9, n, rfl, en, na, nb⟩, rfl⟩
            rw [pc.length, List.take_length] at en
            have en : n = num0 seed W := en
            refine ⟨_, rfl, a, rfl, ⟨_, .of (s0F _ _ ha)⟩, ?_⟩
            refine for_tup (xs := W.hs.map hv) (fun i σ H' => (∃ x3 x6 x7 x8 x9 m, σ = [some (.int way), some (.int seed), some (.ref s0), x3, some (.ref a), some (.ref F), x6, x7, x8, x9, some (.int m)] ∧ m = (corN way n (W.hs.take i)).1 ∧ 0 ≤ m ∧ m < 100003) ∧ SameB F H5 H' ∧ RdK H' F W.hs (corN way n (W.hs.take i)).2)
              ⟨⟨_, _, _, _, _, _, rfl, rfl, na, nb⟩, .refl, r0⟩ ?_ ?_ ?_
            · intro i σ H' _ ⟨_, sm, _⟩
              exact .of (sm _ _ (ne_of_none ha nFH) (s0F _ _ ha))
            · rintro i x σ H6 hx ⟨⟨x3, x6, x7, x8, x9, m, rfl, em, ma, mb⟩, sm, hR⟩
              rw [List.getElem?_map] at hx
              obtain ⟨h, hh, rfl⟩ := Option.map_eq_some_iff.mp hx
              have hm : h ∈ W.hs := mem_of i hh
              obtain ⟨l1, l8, l0⟩ := o2 h (hh6 _ hm)
              have ecN : corN way n (W.hs.take (i + 1)) = ((m * 37 + ordF h) % 100003, fun x => if x = h then (((m * 37 + ordF h) % 100003) % 23 - 11, way - 1) else (corN way n (W.hs.take i)).2 x) := by
                unfold corN at em ⊢
                rw [foldl_take_succ hh, ← em]
              rw [ecN]
              generalize (corN way n (W.hs.take i)).2 = fr at hR ⊢
              refine ⟨_, rfl, _, _, rfl, rfl, wide_mul (a := 17) (b := 6) (by omega) (by decide) (by decide) (by decide) (by decide), _, rfl, _, 0, hdc h, rfl, rfl, l8, l0, _, rfl, rfl, _, _, rfl, rfl, .inl ⟨_, rfl, _, _, rfl, rfl, by show (0 : Int) < 100003; decide, ?_⟩⟩
              have e4 : ∃ x, atI [V.int 1, V.int 2, V.int 3, V.int 4] (way - 2) = some x ∧ x = .int (way - 1) := by
                have : way = 2 ∨ way = 3 ∨ way = 4 ∨ way = 5 := by omega
                rcases this with rfl | rfl | rfl | rfl <;> exact ⟨_, rfl, rfl⟩
              obtain ⟨x4, e4, rfl⟩ := e4
              have ma4 : 0 ≤ (m * 37 + ordF h) % 100003 := Int.emod_nonneg _ (by decide)
              have mb4 : (m * 37 + ordF h) % 100003 < 100003 := Int.emod_lt_of_pos _ (by decide)
              refine ⟨_, rfl, .inl ⟨_, rfl, _, _, rfl, rfl, by show (0 : Int) < 23; decide, _, _, rfl, rfl, ?_⟩⟩
              refine ⟨by show 4 ≤ sizeLine; decide, fun p4 n4 => ?_⟩
              have s4' := same_new (o := .lst [.int 1, .int 2, .int 3, .int 4]) n4
              refine ⟨_, rfl, _, _, rfl, rfl, p4, _, _, _, rfl, rfl, .of upd_same, e4, by show 2 ≤ sizeLine; decide, fun p5 n5 => ?_⟩
              have s5 := s4'.trans (same_new (o := .tup [.int ((m * 37 + ordF h) % 100003 % 23 - 11), .int (way - 1)]) n5)
              have h5 : (upd (upd H6 p4 (.lst [.int 1, .int 2, .int 3, .int 4])) p5 (.tup [.int ((m * 37 + ordF h) % 100003 % 23 - 11), .int (way - 1)])) p5 = some (.tup [.int ((m * 37 + ordF h) % 100003 % 23 - 11), .int (way - 1)]) := upd_same
              obtain ⟨v5, h6', k5⟩ := hR
              have h7' := s5 _ _ h6'
              refine ⟨_, rfl, _, rfl, F, _, rfl, .inl ⟨_, hk1 h, h7', rfl, small1000 (by show (dh W.hs v5).length ≤ 1000; rw [List.length_map]; omega), rfl⟩, ⟨_, _, _, _, _, _, rfl, rfl, ma4, mb4⟩, (sm.trans (sameB_of s5)).trans sameB_upd, ?_⟩
              rw [put_dh _ hm]
              refine ⟨_, upd_same, fun y hy => ?_⟩
              have kt := keepT_upd (o := .dK (dh W.hs fun x => if x = h then V.ref p5 else v5 x)) h7' fun _ z => by cases z
              by_cases e : y = h
              · subst e
                refine ⟨p5, if_pos rfl, ?_⟩
                show FrAt _ p5 (if y = y then _ else _)
                rw [if_pos rfl]
                exact kt _ _ h5
              · obtain ⟨b6, e1, e2⟩ := k5 y hy
                refine ⟨b6, (if_neg e).trans e1, ?_⟩
                show FrAt _ b6 (if y = h then _ else _)
                rw [if_neg e]
                exact kt _ _ (s5 _ _ e2)
            · rintro σ H6 ⟨⟨x3, x6, x7, x8, x9, m, rfl, em, ma, mb⟩, sm, hR⟩
              rw [List.length_map, List.take_length] at hR
              refine ⟨_, rfl, q F H6 ((sameB_of s0F).trans sm |>.new nFH) nFH ?_⟩
              have e : corrF way seed W = (corN way n W.hs).2 := by unfold corrF; rw [if_neg w1, if_pos w2, en]
              rw [e]
              exact hR
        · rw [decide_eq_false w2]
          refine ⟨_, rfl, q F H4 s0F nFH ?_⟩
          have e : corrF way seed W = fun _ => (0, 1) := by unfold corrF; rw [if_neg w1, if_neg w2]
          rw [e]
          exact r0
end
end K80

set_option maxHeartbeats 4000000
/-! the law's spring of draws -/
namespace K80
open PySem PySem.Spec L2
open PyProof.Rows hiding St
abbrev s__law_start : Stmt := (topS 49)
theorem sc__law_start : FnScope ["_law_script"] ["_law_script"] (defScope s__law_start) := ⟨rfl, rfl, rfl, by decide +kernel, rfl, by decide +kernel, by decide +kernel⟩
abbrev s__law_draw : Stmt := (topS 50)
theorem sc__law_draw : FnScope ["_law_stream", "_law_many", "_law_cell", "_law_digit", "_law_mixed_here"] ["_law_stream", "_law_many"] (defScope s__law_draw) := ⟨rfl, rfl, rfl, by decide +kernel, rfl, by decide +kernel, by decide +kernel⟩
abbrev s__law_pick : Stmt := (topS 51)
theorem sc__law_pick : FnScope ["_law_stream", "_law_some"] ["_law_stream", "_law_some"] (defScope s__law_pick) := ⟨rfl, rfl, rfl, by decide +kernel, rfl, by decide +kernel, by decide +kernel⟩
abbrev s__law_mixed : Stmt := (topS 52)
theorem sc__law_mixed : FnScope ["_law_stream", "_law_some", "_law_left", "_law_k"] ["_law_stream", "_law_some"] (defScope s__law_mixed) := ⟨rfl, rfl, rfl, by decide +kernel, rfl, by decide +kernel, by decide +kernel⟩
section
variable {P : Program} {w : World} {K : PySem.W.Frag} {mg : Str → Option Value} {base : Heap}
/-- the spring: n draws may be made yet -/
def StAt (H : Hp) (st cl : Addr) (n : Nat) : Prop := ∃ (ns : List Int) (a c m : Int), H st = some (.lst [.ref cl, .int a, .int c, .int m]) ∧ H cl = some (.lst (ns.map V.int)) ∧ st ≠ cl ∧ ns.length ≤ 63 ∧ 0 ≤ a ∧ 0 ≤ c ∧ c + n ≤ 100000 ∧ 0 ≤ m ∧ m < 2147483647
/-- all but the spring stays -/
def Mv (st cl : Addr) (H H' : Hp) : Prop := ∀ b o, b ≠ st → b ≠ cl → H b = some o → H' b = some o
theorem Mv.refl {st cl : Addr} {H : Hp} : Mv st cl H H := fun _ _ _ _ h => h
theorem Mv.trans {st cl : Addr} {H H1 H2 : Hp} (a : Mv st cl H H1) (b : Mv st cl H1 H2) : Mv st cl H H2 := fun c o n1 n2 h => b c o n1 n2 (a c o n1 n2 h)
theorem mv_same {st cl : Addr} {H H' : Hp} (s : Same H H') : Mv st cl H H' := fun b o _ _ h => s b o h
theorem mv_st {st cl : Addr} {H : Hp} {o : HO} : Mv st cl H (upd H st o) := fun b u n1 _ h => by rw [upd_ne n1]; exact h
theorem mv_cl {st cl : Addr} {H : Hp} {o : HO} : Mv st cl H (upd H cl o) := fun b u _ n2 h => by rw [upd_ne n2]; exact h
theorem StAt.same {H H' : Hp} {st cl : Addr} {n : Nat} (s : Same H H') (h : StAt H st cl n) : StAt H' st cl n :=
  let ⟨ns, a, c, m, e1, e2, r⟩ := h; ⟨ns, a, c, m, s _ _ e1, s _ _ e2, r⟩
theorem StAt.mono {H : Hp} {st cl : Addr} {n k : Nat} (h : StAt H st cl n) (hk : k ≤ n) : StAt H st cl k :=
  let ⟨ns, a, c, m, e1, e2, e3, e4, e5, e6, e7, r⟩ := h; ⟨ns, a, c, m, e1, e2, e3, e4, e5, e6, by omega, r⟩
theorem StAt.ne {H : Hp} {st cl p : Addr} {n : Nat} (h : StAt H st cl n) (e : H p = none) : p ≠ st ∧ p ≠ cl :=
  by
  obtain ⟨ns, a, c, m, e1, e2, _⟩ := h
  refine ⟨fun z => ?_, fun z => ?_⟩
  · rw [z, e1] at e; cases e
  · rw [z, e2] at e; cases e
/-- a fresh place stays the caller's -/
theorem Mv.free {st cl p : Addr} {H H' : Hp} {n : Nat} (s : Mv st cl H H') (h : StAt H' st cl n) (e : H' p = none) : H p = none := by
  obtain ⟨n1, n2⟩ := h.ne e
  cases q : H p with
  | none => rfl
  | some o => rw [s p o n1 n2 q] at e; cases e
theorem mv_new {st cl p : Addr} {H H' : Hp} {o : HO} (s : Mv st cl H H') (n : H p = none) : Mv st cl H (upd H' p o) := fun b u n1 n2 e => by
  rw [upd_ne (ne_of_none e n)]
  exact s b u n1 n2 e
def spStart (K : PySem.W.Frag) : Sp := fun vs H Q _ => ∃ (a : Addr) (ns : List Int), vs = [.ref a] ∧ SqL K H a (ns.map V.int) ∧ ns.length ≤ 63 ∧ ∀ st cl H', Same H H' → H st = none → H cl = none → StAt H' st cl 100000 → Q (.ref st) H'
theorem ok_start (T : Txt K mg) : CallOk P w K mg base CX0 1 "_law_start" ["_law_script"] [] (spStart K) := by
  refine def_ok (st := s__law_start) T 38 32 rfl rfl sc__law_start (fun _ _ _ _ _ _ us hl => match us, hl with | [_], _ => rfl) (fun vs H Q E h => ?_) (fun cdv f A outer s H vs Q E hr h => ?_)
  · obtain ⟨a, ns, rfl, _⟩ := h
    rfl
  · obtain ⟨a, ns, rfl, ha, hz, q⟩ := h
    refine ⟨_, PSs.nox (pss_one (ps_ret (pe_lst (pa_cons (pe_callTy (T := "list") (call_lstK (K := K) rfl) (by rfl) T.f_list (by decide +kernel) (pa_cons (pv 0) pa_nil)) (pa_cons (pe_int) (pa_cons (pe_int) (pa_cons (pe_int) pa_nil))))))), ?_⟩
    refine ⟨_, rfl, a, _, rfl, .inl ha, fun cl nc => ⟨by show 4 ≤ sizeLine; decide, fun st ns' => ?_⟩⟩
    have s1 := same_new (o := .lst (ns.map V.int)) nc
    have s2 := same_new (o := .lst [.ref cl, .int 0, .int 0, .int 11]) ns'
    have e : st ≠ cl := fun z => by rw [z, upd_same] at ns'; cases ns'
    exact q st cl _ (s1.trans s2) (s1.free ns') nc ⟨ns, 0, 0, 11, upd_same, s2 _ _ upd_same, e, hz, by decide, by decide, by decide, by decide, by decide⟩
def spDraw : Sp := fun vs H Q _ => ∃ (st cl : Addr) (many : Int) (n : Nat), vs = [.ref st, .int many] ∧ 0 < many ∧ many ≤ 1000000 ∧ StAt H st cl (n + 1) ∧ ∀ k H', 0 ≤ k → k < many → Mv st cl H H' → StAt H' st cl n → Q (.int k) H'
theorem sh_ints (l : List Int) : Sh 1 (.list (l.map PyData.int)) := sh_list fun d hd => by
  obtain ⟨x, _, rfl⟩ := List.mem_map.mp hd
  exact sh_int
theorem eqv_ints (l : List Int) : PyData.eqv (.list (l.map PyData.int)) (.list []) = decide (l = []) := by
  cases l <;> simp [PyData.eqv, PyData.eqvAll]
theorem pow_sz {i : Int} {a : Nat} (h : 0 ≤ i) (k : i < 2 ^ 40) : i.natAbs < 2 ^ 64 := by
  have : (2 : Int) ^ 40 = 1099511627776 := by decide
  have : (2 : Nat) ^ 64 = 18446744073709551616 := by decide
  omega
theorem ok_draw (T : Txt K mg) : CallOk P w K mg base CX0 1 "_law_draw" ["_law_stream", "_law_many"] [] spDraw := by
  refine def_ok (st := s__law_draw) T 39 33 rfl rfl sc__law_draw (fun _ _ _ _ _ _ us hl => match us, hl with | [_, _], _ => rfl) (fun vs H Q E h => ?_) (fun cdv f A outer s H vs Q E hr h => ?_)
  · obtain ⟨st, cl, many, n, rfl, _⟩ := h
    rfl
  · obtain ⟨st, cl, many, n, rfl, m0, mz, ⟨ns, a, c, m, hst, hcl, hne, hz, ha0, hc0, hcn, hm0, hmz⟩, q⟩ := h
    refine ⟨_, PSs.nox (pss_cons (ps_asg (pe_op op_add (pe_ix (ix_listK (K := K) rfl) (pv 0) (pe_int) (fun _ _ => rfl)) (pe_int)) (pg_sub (pv 0) (pe_int) set_list))
      (Evl.pss_cut (ps_while PassesOwn.never (PW.pt (pw_and (pt_cmpR op_eq (pe_ix (ix_listK (K := K) rfl) (pv 0) (pe_int) (fun _ _ => rfl)) (pe_int) (nomark _)) (pw_and1 (pt_cmpR (op_neDK (K := K) rfl (deep64 hr)) (pe_ix (ix_listK (K := K) rfl) (pv 0) (pe_int) (fun _ _ => rfl)) (pe_lst pa_nil) (nomark _)))))
      (pss_cons (ps_set (i := 2) sc__law_draw.nd rfl (.inl rfl) (pe_bmK (K := K) rfl PySem.F.plainAttrs_list PySem.F.slot_list_pop PySem.F.type_list_pop mt_popAt (pe_ix (ix_listK (K := K) rfl) (pv 0) (pe_int) (fun _ _ => rfl)) (pa_cons (pe_int) pa_nil)))
      (pss_cons (ps_asg (pe_op op_mod (pe_callTy (T := "int") call_int1 (by rfl) T.f_int (by decide +kernel) (pa_cons (pe_op op_add (pe_op op_add (pe_op op_mulW (pe_ix (ix_listK (K := K) rfl) (pv 0) (pe_int) (fun _ _ => rfl)) (pe_int)) (pv 2)) (pe_int)) pa_nil)) (pe_int)) (pg_sub (pv 0) (pe_int) set_list))
      (pss_one (ps_asg (pe_ifExp (pt_cmpR op_ge (pv 2) (pe_op op_pow (pe_int) (pe_int)) (nomark _)) (pv 2) (pe_int)) (pg_sub (pv 0) (pe_int) set_list))))))
      (pss_cons (ps_if (pt_cmpR op_gt (pe_ix (ix_listK (K := K) rfl) (pv 0) (pe_int) (fun _ _ => rfl)) (pe_int) (nomark _)) (pss_cons (ps_set (i := 3) sc__law_draw.nd rfl (.inl rfl) (pe_op op_mod (pe_callTy (T := "int") call_int1 (by rfl) T.f_int (by decide +kernel) (pa_cons (pe_ix (ix_listK (K := K) rfl) (pv 0) (pe_int) (fun _ _ => rfl)) pa_nil)) (pv 1)))
      (pss_cons (ps_asg (pe_op op_fdivW (pe_ix (ix_listK (K := K) rfl) (pv 0) (pe_int) (fun _ _ => rfl)) (pv 1)) (pg_sub (pv 0) (pe_int) set_list))
      (pss_one (ps_ret (pv 3))))) pss_nil)
      (pss_cons (ps_set (i := 4) sc__law_draw.nd rfl (.inl rfl) (pe_op op_mod (pe_callTy (T := "int") call_int1 (by rfl) T.f_int (by decide +kernel) (pa_cons (pe_op op_pow (pe_op op_add (pe_op op_add (pe_ix (ix_listK (K := K) rfl) (pv 0) (pe_int) (fun _ _ => rfl)) (pe_op op_mulW pe_int (pe_ix (ix_listK (K := K) rfl) (pv 0) (pe_int) (fun _ _ => rfl)))) pe_int) pe_int) pa_nil)) (pe_int)))
      (pss_one (ps_ret (pe_op op_mod (pe_op op_mod (pe_callTy (T := "int") call_int1 (by rfl) T.f_int (by decide +kernel) (pa_cons (pe_op op_pow (pe_op op_add (pe_op op_add (pe_op op_mulW (pv 4) (pe_int)) (pe_op op_mulW (pe_int) (pe_ix (ix_listK (K := K) rfl) (pv 0) (pe_int) (fun _ _ => rfl)))) (pe_int)) (pe_int)) pa_nil)) (pe_int)) (pv 1)))))))), ?_⟩
    refine ⟨_, rfl, st, _, 2, _, rfl, rfl, .of hst, rfl, _, _, rfl, rfl, _, rfl, st, _, 2, 2, rfl, rfl, hst, rfl, ?_⟩
    refine ⟨fun σ H' => ∃ x2, ∃ (ns : List Int) (a m : Int), σ = [some (.ref st), some (.int many), x2, none, none] ∧ ns.length ≤ 63 ∧ Mv st cl H H' ∧ H' st = some (.lst [.ref cl, .int a, .int (c + 1), .int m]) ∧ H' cl = some (.lst (ns.map V.int)) ∧ 0 ≤ a ∧ 0 ≤ m ∧ m < 2147483647, ?_, ?_⟩
    · refine ⟨fun k σ H' => ∃ x2, ∃ (ns : List Int) (a m : Int), σ = [some (.ref st), some (.int many), x2, none, none] ∧ k = ns.length ∧ ns.length ≤ 63 ∧ Mv st cl H H' ∧ H' st = some (.lst [.ref cl, .int a, .int (c + 1), .int m]) ∧ H' cl = some (.lst (ns.map V.int)) ∧ 0 ≤ a ∧ 0 ≤ m ∧ m < 2147483647, ⟨ns.length, _, ns, a, m, rfl, rfl, hz, mv_st, upd_same, by rw [upd_ne hne.symm]; exact hcl, ha0, hm0, hmz⟩, ?_⟩
      clear hst hcl hz ha0 hm0 hmz
      rintro k σ H' ⟨x2, ns, a, m, rfl, rfl, hz, sm, hst, hcl, ha0, hm0, hmz⟩
      refine ⟨_, rfl, st, _, 1, _, rfl, rfl, .of hst, rfl, rfl, _, rfl, ?_⟩
      by_cases a0 : a = 0
      · subst a0
        rw [show decide (V.int 0 = V.int 0) = true from rfl]
        refine ⟨_, rfl, st, _, 0, _, rfl, rfl, .of hst, rfl, by show 0 ≤ sizeLine; decide, fun p np => ?_⟩
        have sp := same_new (o := .lst []) np
        have hst1 := sp _ _ hst
        have hcl1 := sp _ _ hcl
        have sm1 := sm.trans (mv_same sp)
        refine ⟨.list (ns.map PyData.int), .list [], .lst (.of hcl1) (dpAll_map fun x _ => .int _), .lst (.of upd_same) .nil, (sh_ints ns).shaped (by decide), (sh_list (n := 0) (ds := []) fun _ h => by cases h).shaped (by decide), _, rfl, ?_⟩
        rw [eqv_ints]
        generalize upd H' p (.lst []) = H1 at hst1 hcl1 sm1
        cases ns with
        | nil => exact ⟨_, [], 0, m, rfl, hz, sm1, hst1, hcl1, ha0, hm0, hmz⟩
        | cons z t =>
          refine ⟨_, fun _ _ h => h, ?_⟩
          refine ⟨_, rfl, st, _, 0, _, rfl, rfl, .of hst1, rfl, .inl ⟨rfl, _, .of hcl1⟩, cl, _, 0, 0, .int z, rfl, rfl, hcl1, by decide, by decide, by simp [seqIndex?], rfl, ?_⟩
          have hstA : (upd H1 cl (.lst (t.map V.int))) st = some (.lst [.ref cl, .int 0, .int (c + 1), .int m]) := by rw [upd_ne hne]; exact hst1
          have smA := sm1.trans (mv_cl (st := st) (o := .lst (t.map V.int)))
          have hclA : (upd H1 cl (.lst (t.map V.int))) cl = some (.lst (t.map V.int)) := upd_same
          refine ⟨_, rfl, st, _, 3, _, rfl, rfl, .of hstA, rfl, _, _, rfl, rfl, wide_mul (a := 31) (b := 13) (by omega) (by decide) (by decide) (by decide) (by decide), _, rfl, _, _, rfl, rfl, _, _, rfl, rfl, .inl ⟨_, rfl, _, _, rfl, rfl, by show (0 : Int) < 2147483647; decide, _, rfl, st, _, 3, 3, rfl, rfl, hstA, rfl, ?_⟩⟩
          have hm1 : 0 ≤ (m * 8191 + z + 3) % 2147483647 := Int.emod_nonneg _ (by decide)
          have hm2 : (m * 8191 + z + 3) % 2147483647 < 2147483647 := Int.emod_lt_of_pos _ (by decide)
          have hstB : (upd (upd H1 cl (.lst (t.map V.int))) st (.lst [.ref cl, .int 0, .int (c + 1), .int ((m * 8191 + z + 3) % 2147483647)])) st = some (.lst [.ref cl, .int 0, .int (c + 1), .int ((m * 8191 + z + 3) % 2147483647)]) := upd_same
          have hclB : (upd (upd H1 cl (.lst (t.map V.int))) st (.lst [.ref cl, .int 0, .int (c + 1), .int ((m * 8191 + z + 3) % 2147483647)])) cl = some (.lst (t.map V.int)) := by rw [upd_ne hne.symm]; exact hclA
          have smB := smA.trans (mv_st (cl := cl) (o := .lst [.ref cl, .int 0, .int (c + 1), .int ((m * 8191 + z + 3) % 2147483647)]))
          refine ⟨_, rfl, 10, 18, rfl, rfl, ⟨by decide, by decide, by decide⟩, _, _, rfl, rfl, _, rfl, ?_⟩
          have last : ∀ a', 0 ≤ a' → ∃ m', m' < (z :: t).length ∧ ∃ x2, ∃ (n2 : List Int) (a2 m2 : Int), [some (V.ref st), some (V.int many), some (V.int z), none, none] = [some (.ref st), some (.int many), x2, none, none] ∧ m' = n2.length ∧ n2.length ≤ 63 ∧ Mv st cl H (upd (upd (upd H1 cl (.lst (t.map V.int))) st (.lst [.ref cl, .int 0, .int (c + 1), .int ((m * 8191 + z + 3) % 2147483647)])) st (.lst [.ref cl, .int a', .int (c + 1), .int ((m * 8191 + z + 3) % 2147483647)])) ∧ (upd (upd (upd H1 cl (.lst (t.map V.int))) st (.lst [.ref cl, .int 0, .int (c + 1), .int ((m * 8191 + z + 3) % 2147483647)])) st (.lst [.ref cl, .int a', .int (c + 1), .int ((m * 8191 + z + 3) % 2147483647)])) st = some (.lst [.ref cl, .int a2, .int (c + 1), .int m2]) ∧ (upd (upd (upd H1 cl (.lst (t.map V.int))) st (.lst [.ref cl, .int 0, .int (c + 1), .int ((m * 8191 + z + 3) % 2147483647)])) st (.lst [.ref cl, .int a', .int (c + 1), .int ((m * 8191 + z + 3) % 2147483647)])) cl = some (.lst (n2.map V.int)) ∧ 0 ≤ a2 ∧ 0 ≤ m2 ∧ m2 < 2147483647 := fun a' h => by
            simp only [List.length_cons] at hz
            exact ⟨t.length, by simp, _, t, a', _, rfl, rfl, by omega, smB.trans mv_st, upd_same, by rw [upd_ne hne.symm]; exact hclB, h, hm1, hm2⟩
          by_cases cz : (10 : Int) ^ (18 : Int).toNat ≤ z
          · rw [decide_eq_true cz]
            have z0 : 0 ≤ z := Int.le_trans (by decide) cz
            exact ⟨_, rfl, _, rfl, st, _, 1, 1, rfl, rfl, hstB, rfl, last z z0⟩
          · rw [decide_eq_false cz]
            exact ⟨_, rfl, st, _, 1, 1, rfl, rfl, hstB, rfl, last 0 (Int.le_refl _)⟩
      · have e : decide (V.int a = V.int 0) = false := decide_eq_false fun e => a0 (by injection e)
        rw [e]
        exact ⟨_, ns, a, m, rfl, hz, sm, hst, hcl, ha0, hm0, hmz⟩
    · clear hst hcl hz ha0 hm0 hmz
      rintro σ H' ⟨x2, ns, a, m, rfl, hz, sm, hst, hcl, ha0, hm0, hmz⟩
      refine ⟨_, rfl, st, _, 1, _, rfl, rfl, .of hst, rfl, _, _, rfl, rfl, _, rfl, ?_⟩
      have fin : ∀ k H2 a', 0 ≤ k → k < many → 0 ≤ a' → Mv st cl H' H2 → H2 st = some (.lst [.ref cl, .int a', .int (c + 1), .int m]) → H2 cl = some (.lst (ns.map V.int)) → Q (.int k) H2 := fun k H2 a' k0 k1 h0 s2 e1 e2 =>
        q k H2 k0 k1 (sm.trans s2) ⟨ns, a', c + 1, m, e1, e2, hne, hz, h0, by omega, by omega, hm0, hmz⟩
      by_cases a1 : 0 < a
      · rw [decide_eq_true a1]
        refine ⟨_, rfl, st, _, 1, _, rfl, rfl, .of hst, rfl, .inl ⟨_, rfl, _, rfl, _, _, rfl, rfl, m0, ?_⟩⟩
        refine ⟨_, rfl, st, _, 1, _, rfl, rfl, .of hst, rfl, _, rfl, _, _, rfl, rfl, wide_div (b := 30) m0 (by omega) (by decide) (by decide), _, rfl, st, _, 1, 1, rfl, rfl, hst, rfl, ?_⟩
        refine ⟨_, rfl, fin _ _ (a / many) (Int.emod_nonneg _ (by omega)) (Int.emod_lt_of_pos _ m0) (Int.ediv_nonneg (by omega) (by omega)) mv_st upd_same (by rw [upd_ne hne.symm]; exact hcl)⟩
      · rw [decide_eq_false a1]
        have p64 : (2 : Nat) ^ 64 = 18446744073709551616 := by decide
        refine ⟨_, rfl, st, _, 3, _, rfl, rfl, .of hst, rfl, _, rfl, st, _, 2, _, rfl, rfl, .of hst, rfl, _, _, rfl, rfl, wide_mul (a := 13) (b := 20) (by decide) (by omega) (by decide) (by decide) (by decide), _, _, rfl, rfl, _, _, rfl, rfl, _, _, rfl, rfl, ⟨by decide, by decide, by omega⟩, .inl ⟨_, rfl, _, _, rfl, rfl, by show (0 : Int) < 2147483629; decide, ?_⟩⟩
        have n1 : 0 ≤ ((m + 7919 * (c + 1) + 104729) ^ (5 : Int).toNat) % 2147483629 := Int.emod_nonneg _ (by decide)
        have n2 : ((m + 7919 * (c + 1) + 104729) ^ (5 : Int).toNat) % 2147483629 < 2147483629 := Int.emod_lt_of_pos _ (by decide)
        generalize ((m + 7919 * (c + 1) + 104729) ^ (5 : Int).toNat) % 2147483629 = y at n1 n2 ⊢
        refine ⟨_, rfl, _, _, rfl, rfl, wide_mul (a := 31) (b := 16) (by omega) (by decide) (by decide) (by decide) (by decide), _, rfl, st, _, 2, _, rfl, rfl, .of hst, rfl, _, _, rfl, rfl, wide_mul (a := 15) (b := 20) (by decide) (by omega) (by decide) (by decide) (by decide), _, _, rfl, rfl, _, _, rfl, rfl, _, _, rfl, rfl, ⟨by decide, by decide, by omega⟩, .inl ⟨_, rfl, _, _, rfl, rfl, by show (0 : Int) < 1000000007; decide, _, rfl, _, _, rfl, rfl, m0, ?_⟩⟩
        exact fin _ _ a (Int.emod_nonneg _ (by omega)) (Int.emod_lt_of_pos _ m0) ha0 .refl hst hcl
theorem atI_int {xs : List V} {k : Int} (k0 : 0 ≤ k) (k1 : k < (xs.length : Nat)) : ∃ x, xs[k.toNat]? = some x ∧ atI xs k = some x := by
  obtain ⟨j, rfl⟩ : ∃ j : Nat, k = (j : Int) := ⟨k.toNat, by omega⟩
  have h : j < xs.length := by omega
  exact ⟨xs[j], List.getElem?_eq_getElem h, atI_nat (List.getElem?_eq_getElem h)⟩
def spPick : Sp := fun vs H Q _ => ∃ (st cl p : Addr) (xs : List V) (n : Nat), vs = [.ref st, .ref p] ∧ H p = some (.lst xs) ∧ (p ≠ st ∧ p ≠ cl) ∧ 0 < xs.length ∧ xs.length ≤ 1000 ∧ StAt H st cl (n + 1) ∧ ∀ (i : Nat) (x : V) H', xs[i]? = some x → Mv st cl H H' → StAt H' st cl n → Q x H'
theorem ok_pick (T : Txt K mg) : CallOk P w K mg base CX0 2 "_law_pick" ["_law_stream", "_law_some"] [] spPick := by
  have C__law_draw : CallOk P w K mg base CX0 1 "_law_draw" ["_law_stream", "_law_many"] [] spDraw := ok_draw T
  refine def_ok (st := s__law_pick) T 40 34 rfl rfl sc__law_pick (fun _ _ _ _ _ _ us hl => match us, hl with | [_, _], _ => rfl) (fun vs H Q E h => ?_) (fun cdv f A outer s H vs Q E hr h => ?_)
  · obtain ⟨st, cl, p, xs, n, rfl, _⟩ := h
    rfl
  · obtain ⟨st, cl, p, xs, n, rfl, hp, ⟨p1, p2⟩, x0, xz, hst, q⟩ := h
    refine ⟨_, PSs.nox (pss_one (ps_ret (pe_ix (ix_listK (K := K) rfl) (pv 1) (pe_callT C__law_draw (hr.mono (by decide)) (by rfl) pass0 (pa_cons (pv 0) (pa_cons (pe_callB (id := "len") (call_lenK (K := K) rfl) (by rfl) T.f_len (by decide +kernel) (pa_cons (pv 1) pa_nil)) pa_nil))) (fun _ _ => rfl)))), ?_⟩
    refine ⟨_, rfl, _, rfl, _, rfl, _, _, rfl, .inl ⟨_, .of hp, rfl⟩, st, cl, _, n, rfl, by omega, by omega, hst, fun k H' k0 k1 mv hst' => ?_⟩
    obtain ⟨x, ex, ea⟩ := atI_int k0 k1
    exact ⟨p, xs, k, x, rfl, rfl, .of (mv _ _ p1 p2 hp), ea, q _ _ _ ex mv hst'⟩
def spMixed (K : PySem.W.Frag) : Sp := fun vs H Q _ => ∃ (st cl p : Addr) (xs : List V) (n : Nat), vs = [.ref st, .ref p] ∧ (SqL K H p xs ∨ SqT K H p xs) ∧ xs.length ≤ 1000 ∧ StAt H st cl (n + xs.length) ∧ ∀ r H' ys, Mv st cl H H' → H r = none → H' r = some (.lst ys) → ys.Perm xs → StAt H' st cl n → Q (.ref r) H'
theorem perm_erase {α : Type} : ∀ (l : List α) (i : Nat) (x : α), l[i]? = some x → (x :: l.eraseIdx i).Perm l
  | [], i, x, h => by simp at h
  | a :: l, 0, x, h => by
    simp at h
    subst h
    exact .refl _
  | a :: l, i + 1, x, h => by
    simp at h
    have ih := perm_erase l i x (by simpa using h)
    show (x :: a :: l.eraseIdx i).Perm (a :: l)
    exact (List.Perm.swap a x _).trans (ih.cons a)
theorem ok_mixed (T : Txt K mg) : CallOk P w K mg base CX0 2 "_law_mixed" ["_law_stream", "_law_some"] [] (spMixed K) := by
  have C__law_draw : CallOk P w K mg base CX0 1 "_law_draw" ["_law_stream", "_law_many"] [] spDraw := ok_draw T
  refine def_ok (st := s__law_mixed) T 41 35 rfl rfl sc__law_mixed (fun _ _ _ _ _ _ us hl => match us, hl with | [_, _], _ => rfl) (fun vs H Q E h => ?_) (fun cdv f A outer s H vs Q E hr h => ?_)
  · obtain ⟨st, cl, p, xs, n, rfl, _⟩ := h
    rfl
  · obtain ⟨st, cl, p, xs, n, rfl, hp, xz, hst, q⟩ := h
    refine ⟨_, PSs.nox (pss_cons (ps_set (i := 2) sc__law_mixed.nd rfl (.inr rfl) (pe_callTy (T := "list") (call_lstK (K := K) rfl) (by rfl) T.f_list (by decide +kernel) (pa_cons (pv 1) pa_nil)))
      (pss_one (ps_ret (pe_lc (own := [("_law_k", 3)]) (by rfl) sc__law_mixed.nd (pi_range1 (by rfl) T.f_range (pa_cons (pe_callB (id := "len") (call_lenK (K := K) rfl) (by rfl) T.f_len (by decide +kernel) (pa_cons (pv 2) pa_nil)) pa_nil)) (blkOk_by (own := [("_law_k", 3)]) (N := ["_law_stream", "_law_some", "_law_left", "_law_k"]) (sc := defScope (topS 52)) (by decide +kernel)) (fun _ _ _ _ _ => (pg_name (i := 3) sc__law_mixed.nd rfl (.inl rfl))) (fun _ _ _ _ _ => pts_nil) (fun _ _ _ _ _ => (pe_bmK (K := K) rfl PySem.F.plainAttrs_list PySem.F.slot_list_pop PySem.F.type_list_pop mt_popAt (pv 2) (pa_cons (pe_callT C__law_draw (hr.mono (by decide)) (by rfl) pass0 (pa_cons (pv 0) (pa_cons (pe_callB (id := "len") (call_lenK (K := K) rfl) (by rfl) T.f_len (by decide +kernel) (pa_cons (pv 2) pa_nil)) pa_nil))) pa_nil))))))), ?_⟩
    refine ⟨_, rfl, p, xs, rfl, hp, fun L nL => ?_⟩
    have sL := same_new (o := .lst xs) nL
    have hL : (upd H L (.lst xs)) L = some (.lst xs) := upd_same
    have hst1 := hst.same sL
    generalize upd H L (.lst xs) = H1 at sL hL hst1
    obtain ⟨L1, L2⟩ := hst.ne nL
    refine ⟨_, rfl, _, _, rfl, .inl ⟨_, .of hL, rfl⟩, _, rfl, by omega, by omega, fun D nD => ?_⟩
    obtain ⟨D1, D2⟩ := hst1.ne nD
    have LD : L ≠ D := ne_of_none hL nD
    show ∃ W : Nat → Nat → Hp → Prop, _
    have et : (xs.length : Int).toNat = xs.length := Int.toNat_natCast _
    rw [et]
    refine lc_range (fun i H' => ∃ ls ys, Mv st cl H H' ∧ H' L = some (.lst ls) ∧ H' D = some (.lst ys) ∧ ls.length = xs.length - i ∧ ys.length = i ∧ (ys ++ ls).Perm xs ∧ StAt H' st cl (n + ls.length)) ?_ ?_ ?_
    · have sD := same_new (o := .lst []) nD
      exact ⟨xs, [], mv_same (sL.trans sD), sD _ _ hL, upd_same, by omega, rfl, .refl _, hst1.same sD⟩
    · rintro i H' hi ⟨ls, ys, mv, hL', hD', ll, ly, pm, hst'⟩
      obtain ⟨m, em⟩ : ∃ m, ls.length = m + 1 := ⟨ls.length - 1, by omega⟩
      rw [em] at hst'
      refine ⟨rfl, ?_⟩
      refine ⟨_, rfl, .inl ⟨rfl, _, .of hL'⟩, _, rfl, _, rfl, _, _, rfl, .inl ⟨_, .of hL', rfl⟩, st, cl, _, n + m, rfl, by omega, by omega, hst', fun k H2 k0 k1 mv2 hst2 => ?_⟩
      have hk : k.toNat < ls.length := by omega
      have ex := List.getElem?_eq_getElem hk
      have hL2 := mv2 _ _ L1 L2 hL'
      have hD2 := mv2 _ _ D1 D2 hD'
      have le := List.length_eraseIdx_of_lt hk
      refine ⟨L, ls, k, k.toNat, _, rfl, rfl, hL2, by omega, by omega, ?_, ex, ys, by rw [upd_ne LD.symm]; exact hD2, small1000 (by omega), ls.eraseIdx k.toNat, ys ++ [ls[k.toNat]], ?_, ?_, upd_same, by omega, by simp; omega, ?_, ?_⟩
      · have kn : ¬ k < 0 := by omega
        simp [seqIndex?, kn, k0, k1]
      · exact mv_new (mv_new (mv.trans mv2) nL) (sL.free nD)
      · rw [upd_ne LD, upd_same]
      · refine List.Perm.trans ?_ pm
        rw [List.append_assoc]
        exact (perm_erase ls k.toNat _ ex).append_left ys
      · have : n + (ls.eraseIdx k.toNat).length = n + m := by omega
        rw [this]
        obtain ⟨ns, a, c, m', e1, e2, r⟩ := hst2
        exact ⟨ns, a, c, m', by rw [upd_ne D1.symm, upd_ne L1.symm]; exact e1, by rw [upd_ne D2.symm, upd_ne L2.symm]; exact e2, r⟩
    · rintro H' ⟨ls, ys, mv, hL', hD', ll, ly, pm, hst'⟩
      have : ls = [] := List.eq_nil_of_length_eq_zero (by omega)
      subst this
      rw [List.append_nil] at pm
      exact q D H' ys mv (sL.free nD) hD' pm hst'
end
end K80

set_option maxHeartbeats 4000000
/-! a dict keyed by pairs, asked whether it is empty -/
namespace K80
open PySem PySem.Spec L2
open PyProof.Rows hiding St
section
variable {prog : Program} {w : World} {A : Around} {E : Value → Shared → Prop} {s : Shared}
theorem same_other {nm : String} {a b : Addr} {oa ob : Obj} {es es' : Array DictEntry} {ep ep' : Nat} {Q : Bool → Shared → Prop} (ha : (a == sysModules) = false) (hb : (b == sysModules) = false)
    (hoa : s.heap.get? a = some oa) (hda : oa.data = .dict es ep) (hob : s.heap.get? b = some ob) (hdb : ob.data = .dict es' ep') (n : es.size ≠ es'.size) (h : Q false s) : wpAny (model prog w) A (Builtin.Dict.samePairs nm a b) Q E s := by
  unfold Builtin.Dict.samePairs Builtin.Dict.showsAll
  rw [if_neg (show ¬ (a == sysModules) = true by rw [ha]; exact Bool.false_ne_true), if_neg (show ¬ (b == sysModules) = true by rw [hb]; exact Bool.false_ne_true)]
  refine wpAny_bind (wpAny_pure (wpAny_bind (wpAny_pure ?_)))
  refine wpAny_bind (wpAny_dictEntries hoa hda ?_)
  dsimp only
  refine wpAny_bind (wpAny_dictEntries hob hdb ?_)
  rw [if_pos (by simpa using n)]
  exact wpAny_bind (wpAny_rule (wpAny_pure h))
theorem ne_other {a b : Addr} {oa ob : Obj} {es es' : Array DictEntry} {ep ep' : Nat} {Q : Value → Shared → Prop} (ha : (a == sysModules) = false) (hb : (b == sysModules) = false)
    (hoa : s.heap.get? a = some oa) (xa : oa.ExactDict) (hda : oa.data = .dict es ep) (hob : s.heap.get? b = some ob) (xb : ob.ExactDict) (hdb : ob.data = .dict es' ep') (hu : A.units < cLine) (n : es.size ≠ es'.size) (h : Q (.bool true) s) :
    wpAny (model prog w) A (compareOp .NotEq (.ref a) (.ref b)) Q E s := by
  have ta : s.TypeIs (.ref a) "dict" := ⟨_, hoa, xa.1⟩
  have tb : s.TypeIs (.ref b) "dict" := ⟨_, hob, xb.1⟩
  refine wpAny_richCompare_same_room (op := .NotEq) ta tb PySem.F.slot_dict_ne (wpAny_call_entry PySem.F.slot_dict_ne ta PySem.F.entry_dict_ne ?_ (PySem.F.args_dict_ne_2 _ _)) hu
  show wpAny _ _ (Builtin.Dict.dictSlotArgs "__ne__" ⟨[.ref a, .ref b], []⟩ >>= _) _ _ s
  refine wpAny_bind ?_
  unfold Builtin.Dict.dictSlotArgs
  refine wpAny_bind (wpAny_notOrdered_dict ta ?_)
  show wpAny _ _ (pure (Value.ref a, Value.ref b)) _ _ s
  refine wpAny_pure ?_
  refine wpAny_bind (wpAny_isInstance (T := "dict") tb PySem.F.sub_dict_dict ?_)
  simp only [Bool.not_true, Bool.false_eq_true, if_false]
  refine wpAny_bind (wpAny_pure (wpAny_bind (wpAny_pure ?_)))
  refine wpAny_bind (same_other ha hb hoa hda hob hdb n ?_)
  refine wpAny_pure ⟨_, rfl, ?_, ?_⟩
  · exact fun x => nomatch x
  · exact h
end
section
variable {X : Cx}
def rNeTE : R2 := fun x y H Q => ∃ a b ks, x = .ref a ∧ y = .ref b ∧ H a = some (.dT ks) ∧ H b = some (.dK []) ∧ Q (.bl (decide (ks ≠ []))) H
theorem op_neTE (hu : X.A.units < cLine) : OpR X (compareOp .NotEq) rNeTE := by
  intro pins s σ H x y v u Q I rx ry h
  obtain ⟨a, b, ks, rfl, rfl, ea, eb, q⟩ := h
  obtain rfl : v = Value.ref a := rx
  obtain rfl : u = Value.ref b := ry
  obtain ⟨_, ya, xs, pa, o, es, ep, hoa, xa, hda, hes, _⟩ := (show ObjOk X.prog X.w H s.heap a (.dT ks) from I.hok a _ ea)
  obtain ⟨_, yb, vb, rb, db⟩ := (show ObjOk X.prog X.w H s.heap b (.dK []) from I.hok b _ eb)
  have hv : vb = [] := by
    have := rb.length
    exact List.eq_nil_of_length_eq_zero this.symm
  subst hv
  obtain ⟨o', es', ep', hob, xb, hdb, _, hpb, _⟩ := id db
  have h0 : es'.size = 0 := by
    have := hpb.length
    rw [Array.length_toList] at this
    exact this
  have hsz : es.size = ks.length := by
    have e1 := congrArg List.length hes
    rw [Array.length_toList, List.length_map] at e1
    rw [e1, pa.length]
  cases ks with
  | nil =>
    have ea0 : es = #[] := Array.eq_empty_of_size_eq_zero (by rw [hsz]; rfl)
    have da : s.heap.DictOf (mixKind X.prog X.w) a [] := ⟨o, es, ep, hoa, xa, hda, (by subst ea0; intro e he; simp at he), (by subst ea0; exact .nil), .nil⟩
    exact PySem.W.keq_ne (knd := mixKind X.prog X.w) (r := true) ya yb da db hu (fun _ => .nil) (fin_bl I q (by simp))
  | cons k r =>
    exact ne_other ya yb hoa xa hda hob xb hdb hu (by rw [hsz, h0]; simp) (fin_bl I q (by simp))
end
end K80

set_option maxHeartbeats 4000000
/-! the law's drawn hands and roads -/
namespace K80
open PySem PySem.Spec L2
open PyProof.Rows hiding St
abbrev s__law_hands : Stmt := (topS 54)
theorem sc__law_hands : FnScope ["_law_stream", "_law_many"] ["_law_stream", "_law_many"] (defScope s__law_hands) := ⟨rfl, rfl, rfl, by decide +kernel, rfl, by decide +kernel, by decide +kernel⟩
abbrev s__law_cl_pairs : Stmt := (topS 58)
theorem sc__law_cl_pairs : FnScope ["_law_hands_here", "_law_found", "_law_one", "_law_other"] ["_law_hands_here"] (defScope s__law_cl_pairs) := ⟨rfl, rfl, rfl, by decide +kernel, rfl, by decide +kernel, by decide +kernel⟩
abbrev s__law_cl_roads : Stmt := (topS 59)
theorem sc__law_cl_roads : FnScope ["_law_stream", "_law_hands_here", "_law_found", "_law_way", "_law_pair", "_law_least"] ["_law_stream", "_law_hands_here"] (defScope s__law_cl_roads) := ⟨rfl, rfl, rfl, by decide +kernel, rfl, by decide +kernel, by decide +kernel⟩
section
variable {P : Program} {w : World} {K : PySem.W.Frag} {mg : Str → Option Value} {base : Heap}
theorem perm_map_inv {α β : Type} (f : α → β) {xs ys : List β} (p : ys.Perm xs) : ∀ l : List α, xs = l.map f → ∃ m : List α, ys = m.map f ∧ m.Perm l := by
  induction p with
  | nil => intro l e; exact ⟨[], rfl, by rw [List.map_eq_nil_iff.mp e.symm]⟩
  | cons x p ih =>
    intro l e
    cases l with
    | nil => cases e
    | cons h r =>
      injection e with e1 e2
      obtain ⟨m, e, p⟩ := ih r e2
      exact ⟨h :: m, by rw [e, e1]; rfl, p.cons h⟩
  | swap x y t =>
    intro l e
    match l, e with
    | a :: b :: r, e =>
      injection e with e1 e2
      injection e2 with e2 e3
      exact ⟨b :: a :: r, by rw [e1, e2, e3]; rfl, .swap a b r⟩
  | trans p1 p2 ih1 ih2 =>
    intro l e
    obtain ⟨m, e1, p1⟩ := ih2 l e
    obtain ⟨m', e2, p2⟩ := ih1 m e1
    exact ⟨m', e2, p2.trans p1⟩
theorem StAt.nst {H : Hp} {st cl p : Addr} {n : Nat} {o : HO} (h : StAt H st cl n) (e : H p = some o) (k : ∀ xs, o ≠ .lst xs) : p ≠ st ∧ p ≠ cl :=
  let ⟨ns, a, c, m, e1, e2, _⟩ := h; ⟨ne_of e e1 (k _), ne_of e e2 (k _)⟩
/-- what is no list stays, whatever is drawn -/
theorem Mv.keep {H H' : Hp} {st cl p : Addr} {n : Nat} {o : HO} (h : StAt H st cl n) (s : Mv st cl H H') (e : H p = some o) (k : ∀ xs, o ≠ .lst xs) : H' p = some o := s _ _ (h.nst e k).1 (h.nst e k).2 e
def nmL : List Nat := [0, 1, 2, 3, 5, 4]
theorem nmL_strs : ([.str "a", .str "b", .str "c1", .str "d", .str "zed", .str "m9"] : List V) = nmL.map hv := by rfl
def spLHands : Sp := fun vs H Q _ => ∃ (st cl : Addr) (m : Nat) (n : Nat), vs = [.ref st, .int (m : Int)] ∧ m ≤ 6 ∧ StAt H st cl (n + 6) ∧ ∀ r H' (hs : List Nat), Mv st cl H H' → H r = none → H' r = some (.lst (hs.map hv)) → hs.Nodup → (∀ h ∈ hs, h < 6) → hs.length = m → StAt H' st cl n → Q (.ref r) H'
theorem ok_l_hands (T : Txt K mg) : CallOk P w K mg base CX0 3 "_law_hands" ["_law_stream", "_law_many"] [] spLHands := by
  have C__law_mixed : CallOk P w K mg base CX0 2 "_law_mixed" ["_law_stream", "_law_some"] [] (spMixed K) := ok_mixed T
  refine def_ok (st := s__law_hands) T 43 37 rfl rfl sc__law_hands (fun _ _ _ _ _ _ us hl => match us, hl with | [_, _], _ => rfl) (fun vs H Q E h => ?_) (fun cdv f A outer s H vs Q E hr h => ?_)
  · obtain ⟨st, cl, m, n, rfl, _⟩ := h
    rfl
  · obtain ⟨st, cl, m, n, rfl, m6, hst, q⟩ := h
    refine ⟨_, PSs.nox (pss_one (ps_ret (pe_slice (sl_listK (K := K) rfl) (pe_callT C__law_mixed (hr.mono (by decide)) (by rfl) pass0 (pa_cons (pv 0) (pa_cons (pe_lst (pa_cons (pe_str) (pa_cons (pe_str) (pa_cons (pe_str) (pa_cons (pe_str) (pa_cons (pe_str) (pa_cons (pe_str) pa_nil))))))) pa_nil))) po_none (po_some (pv 1))))), ?_⟩
    refine ⟨_, rfl, by show 6 ≤ sizeLine; decide, fun p np => ?_⟩
    have sp := same_new (o := .lst (nmL.map hv)) np
    refine ⟨st, cl, p, nmL.map hv, n, rfl, .inl (.of upd_same), by decide, hst.same sp, fun r H' ys mv nr hr pm hst' => ?_⟩
    obtain ⟨hs, rfl, pl⟩ := perm_map_inv hv pm nmL rfl
    refine ⟨_, rfl, m, rfl, r, _, rfl, .of hr, fun q2 n2 => ?_⟩
    have ll : hs.length = 6 := pl.length_eq
    have ec : cutV (hs.map hv) none (some (m : Int)) = (hs.take m).map hv := by
      rw [cut_take _ m (by rw [List.length_map]; omega), List.map_take]
    have nd : hs.Nodup := pl.nodup_iff.mpr (by decide)
    have h6 : ∀ h ∈ hs, h < 6 := fun h hh => by
      have : ∀ x ∈ nmL, x < 6 := by decide
      exact this h (pl.mem_iff.mp hh)
    rw [ec]
    have s2 := same_new (o := .lst ((hs.take m).map hv)) n2
    have mvA := (mv_same (st := st) (cl := cl) sp).trans mv
    exact q q2 _ (hs.take m) (mvA.trans (mv_same s2)) (mvA.free hst' n2) upd_same (nd.sublist (List.take_sublist _ _)) (fun h hh => h6 h (List.mem_of_mem_take hh)) (by rw [List.length_take]; omega) (hst'.same s2)
theorem nodup_pairs {hs : List Nat} (nd : hs.Nodup) : (pairs hs).Nodup := by
  have key : ∀ us : List Nat, us.Nodup → (us.flatMap fun u => (hs.filter fun w => !decide (u = w)).map fun w => (u, w)).Nodup := by
    intro us
    induction us with
    | nil => intro _; exact .nil
    | cons u us ih =>
      intro h
      obtain ⟨h1, h2⟩ := List.nodup_cons.mp h
      rw [List.flatMap_cons]
      refine List.nodup_append.mpr ⟨?_, ih h2, ?_⟩
      · refine List.Pairwise.map _ (fun a b hab e => hab (by injection e)) (nd.sublist List.filter_sublist)
      · intro a ha b hb e
        subst e
        obtain ⟨w, _, rfl⟩ := List.mem_map.mp ha
        obtain ⟨u', hu', hb'⟩ := List.mem_flatMap.mp hb
        obtain ⟨w', _, e⟩ := List.mem_map.mp hb'
        injection e with e1 _
        exact h1 (e1 ▸ hu')
  exact key hs nd
abbrev rowPr (hs : List Nat) (u : Nat) : List (Nat × Nat) := (hs.filter fun w => !decide (u = w)).map fun w => (u, w)
theorem rowPr_len (hs : List Nat) (u : Nat) : (rowPr hs u).length ≤ hs.length := by
  rw [List.length_map]
  exact List.length_filter_le _ _
def spLPairs : Sp := fun vs H Q _ => ∃ (l : Addr) (hs : List Nat), vs = [.ref l] ∧ H l = some (.lst (hs.map hv)) ∧ hs.length ≤ 6 ∧ ∀ p H', Same H H' → H p = none → PrsAt H' p (pairs hs) → Q (.ref p) H'
theorem ok_l_pairs (T : Txt K mg) : CallOk P w K mg base CX0 1 "_law_cl_pairs" ["_law_hands_here"] [] spLPairs := by
  refine def_ok (st := s__law_cl_pairs) T 47 41 rfl rfl sc__law_cl_pairs (fun _ _ _ _ _ _ us hl => match us, hl with | [_], _ => rfl) (fun vs H Q E h => ?_) (fun cdv f A outer s H vs Q E hr h => ?_)
  · obtain ⟨l, hs, rfl, _⟩ := h
    rfl
  · obtain ⟨l, hs, rfl, hl, h6, q⟩ := h
    refine ⟨_, PSs.nox (pss_cons (ps_set (i := 1) sc__law_cl_pairs.nd rfl (.inl rfl) (pe_lst pa_nil))
      (pss_cons (ps_for PassesOwn.never rfl (pi_listK (K := K) rfl (pv 0)) (pg_name (i := 2) sc__law_cl_pairs.nd rfl (.inr rfl))
      (pss_one (ps_expr (pe_bmK (K := K) rfl PySem.F.plainAttrs_list PySem.F.slot_list_extend PySem.F.type_list_extend mt_extend (pv 1) (pa_cons (pe_lc (own := [("_law_other", 3)]) (by rfl) sc__law_cl_pairs.nd (pi_listK (K := K) rfl (pv 0)) (blkOk_by (own := [("_law_other", 3)]) (N := ["_law_hands_here", "_law_found", "_law_one", "_law_other"]) (sc := defScope (topS 58)) (by decide +kernel)) (fun _ _ _ _ _ => (pg_name (i := 3) sc__law_cl_pairs.nd rfl (.inl rfl))) (fun _ _ _ _ _ => pts_one (pt_cmpR op_ne (pv 3) (pv 2) (nomark _))) (fun _ _ _ _ _ => (pe_tup (pa_cons (pv 2) (pa_cons (pv 3) pa_nil))))) pa_nil)))))
      (pss_one (ps_ret (pv 1))))), ?_⟩
    refine ⟨by show 0 ≤ sizeLine; decide, fun F nF => ?_⟩
    have sF := same_new (o := .lst []) nF
    have hlF := sF _ _ hl
    have lF : l ≠ F := ne_of_none hl nF
    refine ⟨_, rfl, l, rfl, ⟨_, .of hlF⟩, ?_⟩
    refine for_list (xs := hs.map hv) (fun i σ H' => (∃ x2, σ = [some (.ref l), some (.ref F), x2, none]) ∧ SameB F H H' ∧ ∃ xs, H' F = some (.lst xs) ∧ xs.length ≤ i * 6 ∧ Paired (IsPr H') xs ((hs.take i).flatMap (rowPr hs)))
      ⟨⟨_, rfl⟩, sameB_of sF, [], upd_same, Nat.le_refl _, .nil⟩ ?_ ?_ ?_
    · intro i σ H' _ ⟨_, sm, _⟩
      exact .of (sm _ _ lF hl)
    · rintro i x σ H1 hx ⟨⟨x2, rfl⟩, sm, xs, hF, lx, pF⟩
      rw [List.getElem?_map] at hx
      obtain ⟨u, hu, rfl⟩ := Option.map_eq_some_iff.mp hx
      have hi : i < 6 := by
        have := (List.getElem?_eq_some_iff.mp hu).1
        omega
      have hl1 := sm _ _ lF hl
      refine ⟨_, rfl, .inl ⟨rfl, _, .of hF⟩, _, rfl, l, rfl, ⟨_, .of hl1⟩, fun D nD => ?_⟩
      refine lcw (us := hs) (fun _ v u => v = hv u) IsPr (fun w => !decide (u = w)) (fun w => (u, w)) (wk_hands (.of hl1)) isPr_keep (Nat.le_trans h6 (by decide)) ?_ nD ?_
      · rintro j _ w H2 QF QT hw rfl s2 qf qt
        refine ⟨rfl, _, rfl, _, rfl, rfl, _, rfl, ?_⟩
        have e : (!decide (hv w = hv u)) = !decide (u = w) := by
          rw [hv_dec]
          congr 1
          by_cases c : u = w
          · subst c; rfl
          · rw [decide_eq_false c, decide_eq_false fun z => c z.symm]
        rw [e]
        cases c : !decide (u = w) with
        | false => exact qf c _ (.refl _)
        | true => exact ⟨_, rfl, _, rfl, by show 2 ≤ sizeLine; decide, fun p np => qt c _ _ (same_new np) ⟨p, rfl, upd_same⟩⟩
      · intro zs H2 s2 hD hP
        have hF2 := s2 _ _ hF
        have lz : zs.length ≤ 6 := by
          have h1 := hP.length
          have h2 := rowPr_len hs u
          unfold rowPr at h2
          omega
        have kt : KeepT H2 (upd H2 F (.lst (xs ++ zs))) := keepT_upd hF2 fun _ z => by cases z
        refine ⟨F, D, xs, zs, rfl, rfl, hF2, hD, Nat.le_of_lt (small1000 (by omega)), ⟨_, rfl⟩, (sm.trans (sameB_of s2)).trans sameB_upd, xs ++ zs, upd_same, by simp; omega, ?_⟩
        rw [flat_take_succ1 hu]
        exact pr_app (pr_mono pF fun v k h => isPr_keep _ _ _ _ ((keepT_same s2).trans kt) h) (pr_mono hP fun v k h => isPr_keep _ _ _ _ kt h)
    · rintro σ H1 ⟨⟨x2, rfl⟩, sm, xs, hF, lx, pF⟩
      rw [List.length_map, List.take_length] at pF
      exact ⟨_, rfl, q F H1 (sm.new nF) nF ⟨xs, hF, pF⟩⟩
/-! a reading cut: what stands behind it -/
theorem seq_go {a b : TS} {D : Ends} {σ : L2.St} {H : Hp} (h : a { D with nx := b D } σ H) : tSeq a b D σ H := h
theorem tt_by {t : TT} {σ : L2.St} {H : Hp} {Q : Bool → Hp → Prop} (P : Bool → Hp → Prop) (h : ∀ Q' : Bool → Hp → Prop, (∀ b H', P b H' → Q' b H') → t σ H Q') (k : ∀ b H', P b H' → Q b H') : t σ H Q := h Q k
theorem te_by {t : TE} {σ : L2.St} {H : Hp} {Q : VK} (P : V → Hp → Prop) (h : ∀ Q' : VK, (∀ v H', P v H' → Q' v H') → t σ H Q') (k : ∀ v H', P v H' → Q v H') : t σ H Q := h Q k
theorem pick_int {ls : List Int} {i : Nat} {x : V} (h : (ls.map V.int)[i]? = some x) : ∃ z, z ∈ ls ∧ x = .int z := by
  rw [List.getElem?_map] at h
  obtain ⟨z, hz, e⟩ := Option.map_eq_some_iff.mp h
  exact ⟨z, List.mem_of_getElem? hz, e.symm⟩
theorem pr_perm {α β : Type} {F : α → β → Prop} {xs ys : List α} (p : ys.Perm xs) : ∀ {us : List β}, Paired F xs us → ∃ vs, Paired F ys vs ∧ vs.Perm us := by
  induction p with
  | nil => intro us h; cases h; exact ⟨[], .nil, .nil⟩
  | cons x p ih =>
    intro us h
    cases h with
    | cons h t =>
      obtain ⟨vs, h1, h2⟩ := ih t
      exact ⟨_ :: vs, .cons h h1, h2.cons _⟩
  | swap x y l =>
    intro us h
    cases h with
    | cons h t =>
      cases t with
      | cons h2 t => exact ⟨_, .cons h2 (.cons h t), .swap _ _ _⟩
  | trans p1 p2 ih1 ih2 =>
    intro us h
    obtain ⟨vs, h1, h2⟩ := ih2 h
    obtain ⟨ws, h3, h4⟩ := ih1 h1
    exact ⟨ws, h3, h4.trans h2⟩
theorem RdKept.mv {H H' : Hp} {st cl F : Addr} {n : Nat} {ks : List (Nat × Nat)} {rd : Nat × Nat → Int × Option Int} (h : StAt H st cl n) (s : Mv st cl H H') (r : RdKept H F ks rd) : RdKept H' F ks rd :=
  let ⟨v, e, k⟩ := r
  ⟨v, s.keep h e (fun _ z => by cases z), fun x hx => let ⟨b, e1, e2⟩ := k x hx; ⟨b, e1, s.keep h e2 (fun _ z => by cases z)⟩⟩
/-- a key more -/
theorem RdKept.put {H : Hp} {F b : Addr} {ks : List (Nat × Nat)} {rd : Nat × Nat → Int × Option Int} {k : Nat × Nat} {x : Int × Option Int} (r : RdKept H F ks rd) (hk : k ∉ ks) (hb : H b = some (.tup [.int x.1, optI x.2])) :
    ∃ v, H F = some (.dT (dt ks v)) ∧ RdKept (upd H F (.dT (putK (dt ks v) (pk k.1 k.2) (.ref b)))) F (ks ++ [k]) fun y => if y = k then x else rd y := by
  obtain ⟨v, e, h⟩ := r
  refine ⟨v, e, _, by rw [upd_same, put_dt_new _ hk], fun y hy => ?_⟩
  have kt : KeepT H (upd H F (.dT (putK (dt ks v) (pk k.1 k.2) (.ref b)))) := keepT_upd e fun _ z => by cases z
  by_cases c : y = k
  · subst c
    refine ⟨b, if_pos rfl, ?_⟩
    simp only [if_true]
    exact kt _ _ hb
  · have hy' : y ∈ ks := by
      rcases List.mem_append.mp hy with z | z
      · exact z
      · simp at z; exact absurd z c
    obtain ⟨b2, e1, e2⟩ := h y hy'
    refine ⟨b2, (if_neg c).trans e1, ?_⟩
    simp only [if_neg c]
    exact kt _ _ e2
/-- the bounds that the law draws -/
def RdSz (ks : List (Nat × Nat)) (rd : Nat × Nat → Int × Option Int) : Prop := ∀ k ∈ ks, 0 ≤ (rd k).1 ∧ (rd k).1 ≤ 5 ∧ ∀ m, (rd k).2 = some m → (rd k).1 ≤ m ∧ m ≤ (rd k).1 + 9
def spLRoads : Sp := fun vs H Q _ => ∃ (st cl l : Addr) (hs : List Nat) (n : Nat), vs = [.ref st, .ref l] ∧ H l = some (.lst (hs.map hv)) ∧ (l ≠ st ∧ l ≠ cl) ∧ hs.Nodup ∧ hs.length ≤ 6 ∧ StAt H st cl (n + 200) ∧
  ∀ r H' ks rd, Mv st cl H H' → H r = none → RdKept H' r ks rd → PrsOk hs ks → RdSz ks rd → StAt H' st cl n → Q (.ref r) H'
theorem ok_l_roads (T : Txt K mg) : CallOk P w K mg base CX0 3 "_law_cl_roads" ["_law_stream", "_law_hands_here"] [] spLRoads := by
  have C__law_mixed : CallOk P w K mg base CX0 2 "_law_mixed" ["_law_stream", "_law_some"] [] (spMixed K) := ok_mixed T
  have C__law_draw : CallOk P w K mg base CX0 1 "_law_draw" ["_law_stream", "_law_many"] [] spDraw := ok_draw T
  have C__law_pick : CallOk P w K mg base CX0 2 "_law_pick" ["_law_stream", "_law_some"] [] spPick := ok_pick T
  have C__law_cl_pairs : CallOk P w K mg base CX0 1 "_law_cl_pairs" ["_law_hands_here"] [] spLPairs := ok_l_pairs T
  refine def_ok (st := s__law_cl_roads) T 48 42 rfl rfl sc__law_cl_roads (fun _ _ _ _ _ _ us hl => match us, hl with | [_, _], _ => rfl) (fun vs H Q E h => ?_) (fun cdv f A outer s H vs Q E hr h => ?_)
  · obtain ⟨st, cl, l, hs, n, rfl, _⟩ := h
    rfl
  · obtain ⟨st, cl, l, hs, n, rfl, hl, ⟨l1, l2⟩, nd, h6, hst, q⟩ := h
    refine ⟨_, PSs.nox (pss_cons (ps_par (i := 2) (j := 3) (by rfl) sc__law_cl_roads.nd rfl rfl (by decide) rfl rfl (pa_cons (pe_dnewT) (pa_cons (pe_callT C__law_draw (hr.mono (by decide)) (by rfl) pass0 (pa_cons (pv 0) (pa_cons (pe_int) pa_nil))) pa_nil)) (by rfl))
      (pss_cons (ps_for PassesOwn.never rfl (pi_listK (K := K) rfl (pe_callT C__law_mixed (hr.mono (by decide)) (by rfl) pass0 (pa_cons (pv 0) (pa_cons (pe_callT C__law_cl_pairs (hr.mono (by decide)) (by rfl) pass0 (pa_cons (pv 1) pa_nil)) pa_nil)))) (pg_name (i := 4) sc__law_cl_roads.nd rfl (.inl rfl))
      (pss_one (ps_if (PW.pt (pw_or (pt_cmpR op_lt (pv 3) (pe_int) (nomark _)) (pw_or1 (pt_cmpR op_eq (pe_callT C__law_draw (hr.mono (by decide)) (by rfl) pass0 (pa_cons (pv 0) (pa_cons (pe_int) pa_nil))) (pe_int) (nomark _))))) (pss_cons (ps_set (i := 5) sc__law_cl_roads.nd rfl (.inl rfl) (pe_callT C__law_pick (hr.mono (by decide)) (by rfl) pass0 (pa_cons (pv 0) (pa_cons (pe_lst (pa_cons (pe_int) (pa_cons (pe_int) (pa_cons (pe_int) (pa_cons (pe_int) pa_nil))))) pa_nil))))
      (pss_one (ps_dput (hu_of hr) (pv 2) (pv 4) (pe_tup (pa_cons (pv 5) (pa_cons (pe_ifExp (pt_cmpR op_eq (pe_callT C__law_draw (hr.mono (by decide)) (by rfl) pass0 (pa_cons (pv 0) (pa_cons (pe_int) pa_nil))) (pe_int) (nomark _)) (pe_non) (pe_op op_add (pv 5) (pe_callT C__law_pick (hr.mono (by decide)) (by rfl) pass0 (pa_cons (pv 0) (pa_cons (pe_lst (pa_cons (pe_int) (pa_cons (pe_int) (pa_cons (pe_int) (pa_cons (pe_int) (pa_cons (pe_int) pa_nil)))))) pa_nil))))) pa_nil))) rfl))) pss_nil)))
      (pss_one (ps_ret (pv 2))))), ?_⟩
    intro F nF
    have sF := same_new (o := .dT []) nF
    have hF : (upd H F (.dT [])) F = some (.dT []) := upd_same
    have hst0 := hst.same sF
    have hl0 := sF _ _ hl
    have mv0 := mv_same (st := st) (cl := cl) sF
    generalize upd H F (.dT []) = H0 at sF hF hst0 hl0 mv0
    refine ⟨_, rfl, st, cl, 4, n + 199, rfl, by decide, by decide, hst0, fun way H1 w0 w1 mv1 hst1 => ⟨_, _, rfl, ?_⟩⟩
    have hl1 := mv1 _ _ l1 l2 hl0
    have hF1 := mv1.keep hst0 hF fun _ z => by cases z
    refine ⟨_, rfl, _, rfl, l, hs, rfl, hl1, h6, fun p2 H2 s2 n2 ⟨xs, hp2, hP2⟩ => ?_⟩
    have lx : xs.length ≤ 36 := by
      have h1 := hP2.length
      have h2 := pairs_len hs
      have h3 : hs.length * hs.length ≤ 6 * 6 := Nat.mul_le_mul h6 h6
      omega
    have hst2 := hst1.same s2
    refine ⟨st, cl, p2, xs, n + 150, rfl, .inl (.of hp2), by omega, hst2.mono (by omega), fun r H3 ys mv3 nr hr pm hst3 => ?_⟩
    obtain ⟨ks, hP3, pmk⟩ := pr_perm pm hP2
    have ly : ys.length ≤ 36 := by rw [pm.length_eq]; exact lx
    have hPk : Paired (IsPr H3) ys ks := pr_mono hP3 fun v k ⟨q, e, h⟩ => ⟨q, e, mv3.keep hst2 h fun _ z => by cases z⟩
    have hF3 := mv3.keep hst2 (s2 _ _ hF1) fun _ z => by cases z
    have ndk : ks.Nodup := pmk.nodup_iff.mpr (nodup_pairs nd)
    obtain ⟨r1, r2⟩ := hst2.ne nr
    have rF : r ≠ F := fun z => by rw [z, s2 _ _ hF1] at nr; cases nr
    have mvA : Mv st cl H H3 := ((mv0.trans mv1).trans (mv_same s2)).trans mv3
    refine ⟨r, rfl, ⟨_, .of hr⟩, ?_⟩
    refine for_list (xs := ys) (fun i σ H' => (∃ x4 x5, σ = [some (.ref st), some (.ref l), some (.ref F), some (.int way), x4, x5]) ∧ (∀ b o, b ≠ F → b ≠ st → b ≠ cl → H3 b = some o → H' b = some o) ∧ StAt H' st cl (n + 4 * (ys.length - i)) ∧ ∃ ds rd, RdKept H' F ds rd ∧ (∀ k ∈ ds, k ∈ ks.take i) ∧ ds.Nodup ∧ ds.length ≤ i ∧ RdSz ds rd)
      ⟨⟨_, _, rfl⟩, fun _ _ _ _ _ h => h, hst3.mono (by omega), [], fun _ => (0, none), ⟨fun _ => .non, hF3, fun k hk => by simp at hk⟩, fun k hk => by simp at hk, .nil, by simp, fun k hk => by simp at hk⟩ ?_ ?_ ?_
    · intro i σ H' _ ⟨_, mv, _⟩
      exact .of (mv _ _ rF r1 r2 hr)
    · rintro i x σ H4 hx ⟨⟨x4, x5, rfl⟩, mv, hst4, ds, rd, hR, din, dnd, dl, dz⟩
      obtain ⟨k, hk, q4, rfl, hq4⟩ := pr_getL hPk hx
      have hi : i < ys.length := (List.getElem?_eq_some_iff.mp hx).1
      have hq4' := mv _ _ (ne_of hq4 hF3 fun z => by cases z) (hst3.nst hq4 fun _ z => by cases z).1 (hst3.nst hq4 fun _ z => by cases z).2 hq4
      have hn4 : n + 4 * (ys.length - i) = n + 4 * (ys.length - (i + 1)) + 4 := by omega
      rw [hn4] at hst4
      generalize n + 4 * (ys.length - (i + 1)) = m at hst4 ⊢
      have hknew : k ∉ ds := fun c => by
        have c := din k c
        obtain ⟨j, hj⟩ := List.mem_iff_getElem?.mp c
        rw [List.getElem?_take] at hj
        split at hj
        · rename_i ji
          have := (List.getElem?_inj (List.getElem?_eq_some_iff.mp hk).1 ndk).mp (hk.trans hj.symm)
          omega
        · cases hj
      have tk : ∀ k ∈ ds, k ∈ ks.take (i + 1) := fun k hk' => by
        rw [take_succ' hk]
        exact List.mem_append_left _ (din k hk')
      show tOr _ _ _ _ _
      refine tt_by (fun b H' => Mv st cl H4 H' ∧ StAt H' st cl (m + 3)) (fun Q' kk => ?_) (fun b H5 ⟨mv5, hst5⟩ => ?_)
      · refine ⟨_, rfl, _, _, rfl, rfl, _, rfl, ?_⟩
        by_cases c : way < 2
        · rw [decide_eq_true c]
          exact kk _ _ ⟨.refl, hst4.mono (by omega)⟩
        · rw [decide_eq_false c]
          refine ⟨_, rfl, st, cl, 2, m + 3, rfl, by decide, by decide, hst4, fun d H5 d0 d1 mv5 hst5 => ⟨rfl, _, rfl, kk _ _ ⟨mv5, hst5⟩⟩⟩
      · have mv35 : ∀ b o, b ≠ F → b ≠ st → b ≠ cl → H3 b = some o → H5 b = some o := fun b o n1 n2 n3 e => mv5 _ _ n2 n3 (mv _ _ n1 n2 n3 e)
        have hR5 := hR.mv hst4 mv5
        have hq5 := mv5.keep hst4 hq4' fun _ z => by cases z
        cases b with
        | false => exact ⟨⟨_, _, rfl⟩, mv35, hst5.mono (by omega), ds, rd, hR5, tk, dnd, by omega, dz⟩
        | true =>
          refine ⟨_, rfl, by show 4 ≤ sizeLine; decide, fun p6 n6 => ?_⟩
          have s6 := same_new (o := .lst ([0, 1, 2, 5].map V.int)) n6
          refine ⟨st, cl, p6, ([0, 1, 2, 5] : List Int).map V.int, m + 2, rfl, upd_same, hst5.ne n6, by decide, by decide, hst5.same s6, fun j x H7 ex mv7 hst7 => ?_⟩
          obtain ⟨least, hle, rfl⟩ := pick_int ex
          have hl5 : 0 ≤ least ∧ least ≤ 5 := by
            have : ∀ z ∈ ([0, 1, 2, 5] : List Int), 0 ≤ z ∧ z ≤ 5 := by decide
            exact this _ hle
          have mv57 := (mv_same (st := st) (cl := cl) s6).trans mv7
          have hR7 := hR5.mv hst5 mv57
          have hq7 := mv57.keep hst5 hq5 fun _ z => by cases z
          refine ⟨_, rfl, ?_⟩
          show (tIf _ _ _) _ _ _
          refine te_by (fun v H' => ∃ o : Option Int, v = optI o ∧ (∀ z, o = some z → least ≤ z ∧ z ≤ least + 9) ∧ Mv st cl H7 H' ∧ StAt H' st cl m) (fun Q' kk => ?_) (fun v H8 ⟨o, ev, ho, mv8, hst8⟩ => ?_)
          · refine ⟨_, rfl, st, cl, 5, m + 1, rfl, by decide, by decide, hst7, fun d H8 d0 d1 mv8 hst8 => ⟨rfl, _, rfl, ?_⟩⟩
            by_cases c : V.int d = V.int 0
            · rw [decide_eq_true c]
              exact kk _ _ ⟨none, rfl, (fun z h => by cases h), mv8, hst8.mono (by omega)⟩
            · rw [decide_eq_false c]
              refine ⟨_, rfl, _, rfl, by show 5 ≤ sizeLine; decide, fun p9 n9 => ?_⟩
              have s9 := same_new (o := .lst ([0, 1, 4, 4, 9].map V.int)) n9
              refine ⟨st, cl, p9, ([0, 1, 4, 4, 9] : List Int).map V.int, m, rfl, upd_same, hst8.ne n9, by decide, by decide, hst8.same s9, fun j x Ha ex mva hsta => ?_⟩
              obtain ⟨z, hz, rfl⟩ := pick_int ex
              have hz9 : 0 ≤ z ∧ z ≤ 9 := by
                have : ∀ z ∈ ([0, 1, 4, 4, 9] : List Int), 0 ≤ z ∧ z ≤ 9 := by decide
                exact this _ hz
              refine ⟨_, _, rfl, rfl, kk _ _ ⟨some (least + z), rfl, (fun y h => by cases h; omega), mv8.trans ((mv_same s9).trans mva), hsta⟩⟩
          · subst ev
            refine ⟨by show 2 ≤ sizeLine; decide, fun p9 n9 => ?_⟩
            have s9 := same_new (o := .tup [.int least, optI o]) n9
            have hR9 := (hR7.mv hst7 mv8).same s9
            have hq9 := s9 _ _ (mv8.keep hst7 hq7 fun _ z => by cases z)
            have h9 : (upd H8 p9 (.tup [.int least, optI o])) p9 = some (.tup [.int least, optI o]) := upd_same
            have hst9 := hst8.same s9
            have mv59 := (mv57.trans mv8).trans (mv_same s9)
            generalize upd H8 p9 (.tup [.int least, optI o]) = H9 at hR9 hq9 h9 hst9 mv59 ⊢
            obtain ⟨v, hv9, hR10⟩ := hR9.put (x := (least, o)) hknew h9
            obtain ⟨F1, F2⟩ := hst9.nst hv9 fun _ z => by cases z
            refine ⟨_, rfl, _, rfl, F, _, rfl, .inr ⟨_, pk k.1 k.2, q4, hv9, rfl, hq9, by rw [List.length_map]; exact small1000 (by omega), rfl⟩, ⟨_, _, rfl⟩, fun b o n1 n2 n3 e => ?_, ?_, ds ++ [k], _, hR10, fun y hy => ?_, ?_, by simp; omega, fun y hy => ?_⟩
            · rw [upd_ne n1]
              exact mv59 _ _ n2 n3 (mv35 _ _ n1 n2 n3 e)
            · obtain ⟨ns, a, c, m', e1, e2, rr⟩ := hst9
              exact ⟨ns, a, c, m', by rw [upd_ne F1.symm]; exact e1, by rw [upd_ne F2.symm]; exact e2, rr⟩
            · rcases List.mem_append.mp hy with z | z
              · exact tk y z
              · simp at z
                subst z
                rw [take_succ' hk]
                simp
            · refine List.nodup_append.mpr ⟨dnd, by simp, fun a ha b hb z => ?_⟩
              simp at hb
              subst hb
              exact hknew (z ▸ ha)
            · by_cases c : y = k
              · simp only [if_pos c]
                exact ⟨hl5.1, hl5.2, ho⟩
              · simp only [if_neg c]
                rcases List.mem_append.mp hy with z | z
                · exact dz y z
                · simp at z
                  exact absurd z c
    · rintro σ H4 ⟨⟨x4, x5, rfl⟩, mv, hst4, ds, rd, hR, din, dnd, dl, dz⟩
      refine ⟨_, rfl, q F H4 ds rd (fun b o n1 n2 e => ?_) nF hR ⟨dnd, by omega, fun k hk => ?_⟩ dz (hst4.mono (by omega))⟩
      · exact mv _ _ (ne_of_none e nF) n1 n2 (mvA _ _ n1 n2 e)
      · have := pmk.mem_iff.mp (List.mem_of_mem_take (din k hk))
        exact mem_pairs.mp this
end
end K80

set_option maxHeartbeats 4000000
/-! the law's drawn offsets and letters -/
namespace K80
open PySem PySem.Spec L2
open PyProof.Rows hiding St
abbrev s__law_cl_offsets : Stmt := (topS 61)
theorem sc__law_cl_offsets : FnScope ["_law_stream", "_law_hands_here", "_law_some", "_law_hand"] ["_law_stream", "_law_hands_here"] (defScope s__law_cl_offsets) := ⟨rfl, rfl, rfl, by decide +kernel, rfl, by decide +kernel, by decide +kernel⟩
abbrev s__law_cl_seen : Stmt := (topS 60)
theorem sc__law_cl_seen : FnScope ["_law_stream", "_law_roads", "_law_offsets", "_law_many", "_law_found", "_law_k", "_law_one", "_law_other", "_law_least", "_law_most", "_law_took", "_law_time"] ["_law_stream", "_law_roads", "_law_offsets", "_law_many"] (defScope s__law_cl_seen) := ⟨rfl, rfl, rfl, by decide +kernel, rfl, by decide +kernel, by decide +kernel⟩
section
variable {P : Program} {w : World} {K : PySem.W.Frag} {mg : Str → Option Value} {base : Heap}
/-- a list of small ints -/
def HI (H : Hp) (q : Addr) : Prop := ∃ ls : List Int, H q = some (.lst (ls.map V.int)) ∧ 0 < ls.length ∧ ls.length ≤ 5 ∧ ∀ z ∈ ls, -1000000 ≤ z ∧ z ≤ 1000000
theorem HI.same {H H' : Hp} {q : Addr} (s : Same H H') (h : HI H q) : HI H' q := let ⟨l, e, r⟩ := h; ⟨l, s _ _ e, r⟩
def IsOf (off : Nat → Int) (H : Hp) (v : V) (h : Nat) : Prop := ∃ p, v = .ref p ∧ H p = some (.tup [hv h, .int (off h)])
theorem of_split {off : Nat → Int} {H : Hp} {ys : List V} {hs : List Nat} (h : Paired (IsOf off H) ys hs) : ∃ ps : List Addr, ys = ps.map V.ref ∧ Paired (fun p kv => SqT K H p [kV kv.1, kv.2]) ps (dh hs fun h => .int (off h)) := by
  induction h with
  | nil => exact ⟨[], rfl, .nil⟩
  | cons h t ih =>
    obtain ⟨ps, rfl, hp⟩ := ih
    obtain ⟨p, rfl, e⟩ := h
    exact ⟨p :: ps, rfl, .cons (.of e) hp⟩
theorem of_upd {off : Nat → Int} {H H' : Hp} {h : Nat} {z : Int} {ys : List V} {l : List Nat} (k : KeepT H H') (p : Paired (IsOf off H) ys l) (n : h ∉ l) : Paired (IsOf (fun x => if x = h then z else off x) H') ys l := by
  induction p with
  | nil => exact .nil
  | @cons v x ys l hx t ih =>
    refine .cons ?_ (ih fun c => n (List.mem_cons_of_mem _ c))
    obtain ⟨p, e, hp⟩ := hx
    have : x ≠ h := fun c => n (by rw [c]; exact List.mem_cons_self)
    exact ⟨p, e, by simp only [if_neg this]; exact k _ _ hp⟩
def OffSz (hs : List Nat) (off : Nat → Int) : Prop := ∀ h ∈ hs, -1000000 ≤ off h ∧ off h ≤ 1000000
def spLOff : Sp := fun vs H Q _ => ∃ (st cl l : Addr) (hs : List Nat) (n : Nat), vs = [.ref st, .ref l] ∧ H l = some (.lst (hs.map hv)) ∧ (l ≠ st ∧ l ≠ cl) ∧ hs.Nodup ∧ hs.length ≤ 6 ∧ StAt H st cl (n + 7) ∧
  ∀ r H' off, Mv st cl H H' → H r = none → H' r = some (.dK (dh hs fun h => .int (off h))) → OffSz hs off → StAt H' st cl n → Q (.ref r) H'
theorem ok_l_off (T : Txt K mg) : CallOk P w K mg base CX0 3 "_law_cl_offsets" ["_law_stream", "_law_hands_here"] [] spLOff := by
  have C__law_pick : CallOk P w K mg base CX0 2 "_law_pick" ["_law_stream", "_law_some"] [] spPick := ok_pick T
  refine def_ok (st := s__law_cl_offsets) T 50 44 rfl rfl sc__law_cl_offsets (fun _ _ _ _ _ _ us hl => match us, hl with | [_, _], _ => rfl) (fun vs H Q E h => ?_) (fun cdv f A outer s H vs Q E hr h => ?_)
  · obtain ⟨st, cl, l, hs, n, rfl, _⟩ := h
    rfl
  · obtain ⟨st, cl, l, hs, n, rfl, hl, ⟨l1, l2⟩, nd, h6, hst, q⟩ := h
    refine ⟨_, PSs.nox (pss_cons (ps_set (i := 2) sc__law_cl_offsets.nd rfl (.inr rfl) (pe_callT C__law_pick (hr.mono (by decide)) (by rfl) pass0 (pa_cons (pv 0) (pa_cons (pe_lst (pa_cons (pe_lst (pa_cons (pe_int) pa_nil)) (pa_cons (pe_lst (pa_cons (pe_int) (pa_cons (pe_int) (pa_cons (pe_int) (pa_cons (pe_int) (pa_cons (pe_un un_neg (pe_int)) pa_nil)))))) (pa_cons (pe_lst (pa_cons (pe_int) (pa_cons (pe_int) (pa_cons (pe_un un_neg (pe_int)) (pa_cons (pe_int) pa_nil))))) (pa_cons (pe_lst (pa_cons (pe_op op_pow (pe_int) (pe_int)) (pa_cons (pe_un un_neg (pe_op op_pow (pe_int) (pe_int))) (pa_cons (pe_int) pa_nil)))) pa_nil))))) pa_nil))))
      (pss_one (ps_ret (pe_callTy (T := "dict") (call_dictP rfl) (by rfl) T.f_dict (by decide +kernel) (pa_cons (pe_lc (own := [("_law_hand", 3)]) (by rfl) sc__law_cl_offsets.nd (pi_listK (K := K) rfl (pv 1)) (blkOk_by (own := [("_law_hand", 3)]) (N := ["_law_stream", "_law_hands_here", "_law_some", "_law_hand"]) (sc := defScope (topS 61)) (by decide +kernel)) (fun _ _ _ _ _ => (pg_name (i := 3) sc__law_cl_offsets.nd rfl (.inl rfl))) (fun _ _ _ _ _ => pts_nil) (fun _ _ _ _ _ => (pe_tup (pa_cons (pv 3) (pa_cons (pe_callT C__law_pick (hr.mono (by decide)) (by rfl) pass0 (pa_cons (pv 0) (pa_cons (pv 2) pa_nil))) pa_nil))))) pa_nil))))), ?_⟩
    refine ⟨_, rfl, by show 1 ≤ sizeLine; decide, fun p1 n1 => ?_⟩
    have e1 : HI (upd H p1 (.lst [.int 0])) p1 := ⟨[0], upd_same, by decide, by decide, by decide⟩
    have s1 := same_new (o := .lst [.int 0]) n1
    generalize upd H p1 (.lst [.int 0]) = H1 at e1 s1 ⊢
    refine ⟨_, rfl, by show 5 ≤ sizeLine; decide, fun p2 n2 => ?_⟩
    have e2 : HI (upd H1 p2 (.lst [.int 0, .int 1, .int 2, .int 3, .int (-4)])) p2 := ⟨[0, 1, 2, 3, -4], upd_same, by decide, by decide, by decide⟩
    have s2 := same_new (o := .lst [.int 0, .int 1, .int 2, .int 3, .int (-4)]) n2
    generalize upd H1 p2 (.lst [.int 0, .int 1, .int 2, .int 3, .int (-4)]) = H2 at e2 s2
    refine ⟨_, rfl, by show 4 ≤ sizeLine; decide, fun p3 n3 => ?_⟩
    have e3 : HI (upd H2 p3 (.lst [.int 0, .int 7, .int (-30), .int 100])) p3 := ⟨[0, 7, -30, 100], upd_same, by decide, by decide, by decide⟩
    have s3 := same_new (o := .lst [.int 0, .int 7, .int (-30), .int 100]) n3
    generalize upd H2 p3 (.lst [.int 0, .int 7, .int (-30), .int 100]) = H3 at e3 s3
    have c6 : CPow 10 6 := ⟨by decide, by decide, by decide⟩
    refine ⟨_, _, rfl, rfl, c6, _, _, rfl, rfl, c6, _, rfl, by show 3 ≤ sizeLine; decide, fun p4 n4 => ?_⟩
    have e4 : HI (upd H3 p4 (.lst [.int ((10 : Int) ^ (6 : Int).toNat), .int (-(10 : Int) ^ (6 : Int).toNat), .int 5])) p4 := ⟨[(10 : Int) ^ (6 : Int).toNat, -(10 : Int) ^ (6 : Int).toNat, 5], upd_same, by simp, by simp, by decide⟩
    have s4 := same_new (o := .lst [.int ((10 : Int) ^ (6 : Int).toNat), .int (-(10 : Int) ^ (6 : Int).toNat), .int 5]) n4
    generalize upd H3 p4 (.lst [.int ((10 : Int) ^ (6 : Int).toNat), .int (-(10 : Int) ^ (6 : Int).toNat), .int 5]) = H4 at e4 s4
    refine ⟨by show 4 ≤ sizeLine; decide, fun p5 n5 => ?_⟩
    have s5 := same_new (o := .lst [.ref p1, .ref p2, .ref p3, .ref p4]) n5
    have h5 : (upd H4 p5 (.lst [.ref p1, .ref p2, .ref p3, .ref p4])) p5 = some (.lst [.ref p1, .ref p2, .ref p3, .ref p4]) := upd_same
    generalize upd H4 p5 (.lst [.ref p1, .ref p2, .ref p3, .ref p4]) = H5 at h5 s5
    have s14 := ((s1.trans s2).trans s3).trans s4
    have s15 := s14.trans s5
    have ne1 := hst.ne n1
    have ne2 := (hst.same s1).ne n2
    have ne3 := (hst.same (s1.trans s2)).ne n3
    have ne4 := (hst.same ((s1.trans s2).trans s3)).ne n4
    have ne5 := (hst.same s14).ne n5
    refine ⟨st, cl, p5, _, n + 6, rfl, h5, ne5, by show 0 < 4; decide, by show 4 ≤ 1000; decide, hst.same s15, fun j x H6 ex mv6 hst6 => ?_⟩
    have key : ∃ q, x = .ref q ∧ HI H5 q ∧ (q ≠ st ∧ q ≠ cl) := by
      have hj : j < 4 := (List.getElem?_eq_some_iff.mp ex).1
      have : j = 0 ∨ j = 1 ∨ j = 2 ∨ j = 3 := by omega
      rcases this with rfl | rfl | rfl | rfl
      · exact ⟨p1, (Option.some.inj ex).symm, e1.same (((s2.trans s3).trans s4).trans s5), ne1⟩
      · exact ⟨p2, (Option.some.inj ex).symm, e2.same ((s3.trans s4).trans s5), ne2⟩
      · exact ⟨p3, (Option.some.inj ex).symm, e3.same (s4.trans s5), ne3⟩
      · exact ⟨p4, (Option.some.inj ex).symm, e4.same s5, ne4⟩
    obtain ⟨q6, rfl, ⟨ls, hq6, lz0, lz5, lb⟩, q61, q62⟩ := key
    have hq6' := mv6 _ _ q61 q62 hq6
    have hl6 := mv6 _ _ l1 l2 (s15 _ _ hl)
    have mvA := (mv_same (st := st) (cl := cl) s15).trans mv6
    refine ⟨_, rfl, l, rfl, ⟨_, .of hl6⟩, fun D nD => ?_⟩
    obtain ⟨D1, D2⟩ := hst6.ne nD
    have lD : l ≠ D := ne_of_none hl6 nD
    have qD : q6 ≠ D := ne_of_none hq6' nD
    have sD := same_new (o := .lst []) nD
    refine lc_list (xs := hs.map hv) (fun i H' => (∀ b o, b ≠ D → b ≠ st → b ≠ cl → H6 b = some o → H' b = some o) ∧ StAt H' st cl (n + (6 - i)) ∧ ∃ ys off, H' D = some (.lst ys) ∧ ys.length = i ∧ Paired (IsOf off H') ys (hs.take i) ∧ OffSz (hs.take i) off) ?_ ?_ ?_ ?_
    · exact ⟨fun b o n1 _ _ e => by rw [upd_ne n1]; exact e, hst6.same sD, [], fun _ => 0, upd_same, rfl, .nil, fun h hh => by simp at hh⟩
    · intro i H' _ ⟨mv, _⟩
      exact .of (mv _ _ lD l1 l2 hl6)
    · rintro i x H7 hx ⟨mv, hst7, ys, off, hD, ly, pD, oz⟩
      rw [List.getElem?_map] at hx
      obtain ⟨h, hh, rfl⟩ := Option.map_eq_some_iff.mp hx
      have hi : i < hs.length := (List.getElem?_eq_some_iff.mp hh).1
      have en : n + (6 - i) = n + (6 - (i + 1)) + 1 := by omega
      rw [en] at hst7
      have hq7 := mv _ _ qD q61 q62 hq6'
      refine ⟨rfl, _, rfl, _, rfl, _, rfl, st, cl, q6, _, _, rfl, hq7, ⟨q61, q62⟩, by rw [List.length_map]; exact lz0, by rw [List.length_map]; omega, hst7, fun j x H8 ex mv8 hst8 => ?_⟩
      obtain ⟨z, hz, rfl⟩ := pick_int ex
      refine ⟨by show 2 ≤ sizeLine; decide, fun p9 n9 => ?_⟩
      have s9 := same_new (o := .tup [hv h, .int z]) n9
      have h9 : (upd H8 p9 (.tup [hv h, .int z])) p9 = some (.tup [hv h, .int z]) := upd_same
      have hst9 := hst8.same s9
      have hD9 := s9 _ _ (mv8 _ _ D1 D2 hD)
      have mv9 : ∀ b o, b ≠ D → b ≠ st → b ≠ cl → H6 b = some o → (upd H8 p9 (.tup [hv h, .int z])) b = some o := fun b o n1 n2 n3 e => s9 _ _ (mv8 _ _ n2 n3 (mv _ _ n1 n2 n3 e))
      have p9' : Paired (IsOf off (upd H8 p9 (.tup [hv h, .int z]))) ys (hs.take i) := pr_mono pD fun v k ⟨p, e, hp⟩ => ⟨p, e, s9 _ _ (mv8.keep hst7 hp fun _ z => by cases z)⟩
      generalize upd H8 p9 (.tup [hv h, .int z]) = H9 at h9 hst9 hD9 mv9 p9'
      have hnot : h ∉ hs.take i := fun c => by
        obtain ⟨j, hj⟩ := List.mem_iff_getElem?.mp c
        rw [List.getElem?_take] at hj
        split at hj
        · rename_i ji
          have := (List.getElem?_inj hi nd).mp (hh.trans hj.symm)
          omega
        · cases hj
      have kt : KeepT H9 (upd H9 D (.lst (ys ++ [.ref p9]))) := keepT_upd hD9 fun _ z => by cases z
      refine ⟨ys, hD9, small1000 (by omega), fun b o n1 n2 n3 e => by rw [upd_ne n1]; exact mv9 _ _ n1 n2 n3 e, ?_, ys ++ [.ref p9], fun x => if x = h then z else off x, upd_same, by simp; omega, ?_, ?_⟩
      · obtain ⟨ns, a, c, m', e1, e2, rr⟩ := hst9
        exact ⟨ns, a, c, m', by rw [upd_ne D1.symm]; exact e1, by rw [upd_ne D2.symm]; exact e2, rr⟩
      · rw [take_succ' hh]
        refine pr_app ?_ (.cons ⟨p9, rfl, ?_⟩ .nil)
        · exact of_upd kt p9' hnot
        · simp only [if_true]
          exact kt _ _ h9
      · intro x hx
        rw [take_succ' hh] at hx
        by_cases c : x = h
        · simp only [if_pos c]
          exact lb z hz
        · simp only [if_neg c]
          rcases List.mem_append.mp hx with w | w
          · exact oz x w
          · simp at w; exact absurd w c
    · rintro H7 ⟨mv, hst7, ys, off, hD, ly, pD, oz⟩
      rw [List.length_map, List.take_length] at pD oz
      obtain ⟨ps, rfl, hps⟩ := of_split (K := K) pD
      refine ⟨D, ps, _, rfl, .of hD, hps, fun r nr => ?_⟩
      have em : mergeK [] (dh hs fun h => V.int (off h)) = dh hs fun h => V.int (off h) := merge_dh (fun h => V.int (off h)) hs [] nd
      rw [em]
      have mv7 : Mv st cl H H7 := fun b o n1 n2 e => by
        have e6 := mvA _ _ n1 n2 e
        exact mv _ _ (ne_of_none e6 nD) n1 n2 e6
      have sr := same_new (o := .dK (dh hs fun h => V.int (off h))) nr
      exact q r _ off (mv7.trans (mv_same sr)) (mv7.free hst7 nr) upd_same oz ((hst7.mono (by omega)).same sr)
/-- a letter that can have been sent so -/
def LtFit (rd : Nat × Nat → Int × Option Int) (off : Nat → Int) (l : Lt) : Prop :=
  (rd l.k).1 ≤ (l.heard - l.sent) - (off l.other - off l.one) ∧ (∀ m, (rd l.k).2 = some m → (l.heard - l.sent) - (off l.other - off l.one) ≤ m) ∧ ((l.heard - l.sent) - (off l.other - off l.one) ≤ 20 ∧ -2000000 ≤ l.sent ∧ l.sent ≤ 2000000 ∧ -2000000 ≤ l.heard ∧ l.heard ≤ 2000000)
def spLSeen : Sp := fun vs H Q _ => ∃ (st cl r o : Addr) (many : Nat) (ks : List (Nat × Nat)) (rd : Nat × Nat → Int × Option Int) (hs : List Nat) (off : Nat → Int) (n : Nat), vs = [.ref st, .ref r, .ref o, .int (many : Int)] ∧ RdKept H r ks rd ∧ PrsOk hs ks ∧ RdSz ks rd ∧ H o = some (.dK (dh hs fun h => .int (off h))) ∧ OffSz hs off ∧ many ≤ 14 ∧ StAt H st cl (n + 42) ∧
  ∀ a H' ls, Mv st cl H H' → H a = none → LtKept H' a ls → (∀ l ∈ ls, l.k ∈ ks ∧ LtFit rd off l) → ls.length ≤ 14 → StAt H' st cl n → Q (.ref a) H'
theorem LtKept.app {H : Hp} {F b : Addr} {ls : List Lt} {l : Lt} (r : LtKept H F ls) (hb : H b = some (.tup (Lt.v l))) : ∃ xs, H F = some (.lst xs) ∧ xs.length = ls.length ∧ LtKept (upd H F (.lst (xs ++ [.ref b]))) F (ls ++ [l]) := by
  obtain ⟨xs, e, h⟩ := r
  have kt : KeepT H (upd H F (.lst (xs ++ [.ref b]))) := keepT_upd e fun _ z => by cases z
  exact ⟨xs, e, h.length, _, upd_same, pr_app (pr_mono h fun v l ⟨b, e, z⟩ => ⟨b, e, kt _ _ z⟩) (.cons ⟨b, rfl, kt _ _ hb⟩ .nil)⟩
theorem ok_l_seen (T : Txt K mg) : CallOk P w K mg base CX0 3 "_law_cl_seen" ["_law_stream", "_law_roads", "_law_offsets", "_law_many"] [] spLSeen := by
  have C__law_draw : CallOk P w K mg base CX0 1 "_law_draw" ["_law_stream", "_law_many"] [] spDraw := ok_draw T
  have C__law_pick : CallOk P w K mg base CX0 2 "_law_pick" ["_law_stream", "_law_some"] [] spPick := ok_pick T
  refine def_ok (st := s__law_cl_seen) T 49 43 rfl rfl sc__law_cl_seen (fun _ _ _ _ _ _ us hl => match us, hl with | [_, _, _, _], _ => rfl) (fun vs H Q E h => ?_) (fun cdv f A outer s H vs Q E hr h => ?_)
  · obtain ⟨st, cl, r, o, many, ks, rd, hs, off, n, rfl, _⟩ := h
    rfl
  · obtain ⟨st, cl, r, o, many, ks, rd, hs, off, n, rfl, hr1, ⟨knd, kz, kin⟩, rz, ho, oz, mz, hst, q⟩ := h
    refine ⟨_, PSs.nox (pss_cons (ps_set (i := 4) sc__law_cl_seen.nd rfl (.inl rfl) (pe_lst pa_nil))
      (pss_cons (ps_for PassesOwn.never rfl (pi_range1 (by rfl) T.f_range (pa_cons (pe_ifExp (pt_cmpR (op_neTE (Nat.lt_of_succ_lt (hu_of hr))) (pv 1) (pe_dnewK) (nomark _)) (pv 3) (pe_int)) pa_nil)) (pg_name (i := 5) sc__law_cl_seen.nd rfl (.inl rfl))
      (pss_cons (ps_asg (pe_callT C__law_pick (hr.mono (by decide)) (by rfl) pass0 (pa_cons (pv 0) (pa_cons (pe_callB (id := "sorted") cr_sortedN (by rfl) T.f_sorted (by decide +kernel) (pa_cons (pe_callTy (T := "list") (call_list_dT rfl) (by rfl) T.f_list (by decide +kernel) (pa_cons (pv 1) pa_nil)) pa_nil)) pa_nil))) (pg_tupK (K := K) rfl rfl (pgs_cons (pg_name (i := 6) sc__law_cl_seen.nd rfl (.inl rfl)) (pgs_cons (pg_name (i := 7) sc__law_cl_seen.nd rfl (.inl rfl)) pgs_nil))))
      (pss_cons (ps_asg (pe_dget (hu_of hr) (pv 1) (pe_tup (pa_cons (pv 6) (pa_cons (pv 7) pa_nil))) (fun _ _ => rfl)) (pg_tupK (K := K) rfl rfl (pgs_cons (pg_name (i := 8) sc__law_cl_seen.nd rfl (.inl rfl)) (pgs_cons (pg_name (i := 9) sc__law_cl_seen.nd rfl (.inl rfl)) pgs_nil))))
      (pss_cons (ps_par (i := 10) (j := 11) (by rfl) sc__law_cl_seen.nd rfl rfl (by decide) rfl rfl (pa_cons (pe_op op_add (pv 8) (pe_callT C__law_draw (hr.mono (by decide)) (by rfl) pass0 (pa_cons (pv 0) (pa_cons (pe_op op_add (pe_int) (pe_ifExp (pt_cmpR op_isN (pv 9) (pe_non) (nomark _)) (pe_int) (pe_op op_sub (pv 9) (pv 8)))) pa_nil)))) (pa_cons (pe_callT C__law_draw (hr.mono (by decide)) (by rfl) pass0 (pa_cons (pv 0) (pa_cons (pe_int) pa_nil))) pa_nil)) (by rfl))
      (pss_one (ps_expr (pe_bmK (K := K) rfl PySem.F.plainAttrs_list PySem.F.slot_list_append PySem.F.type_list_append mt_append (pv 4) (pa_cons (pe_tup (pa_cons (pv 6) (pa_cons (pe_op op_add (pv 11) (pe_dget (hu_of hr) (pv 2) (pv 6) (fun _ _ => rfl))) (pa_cons (pv 7) (pa_cons (pe_op op_add (pe_op op_add (pv 11) (pv 10)) (pe_dget (hu_of hr) (pv 2) (pv 7) (fun _ _ => rfl))) pa_nil))))) pa_nil))))))))
      (pss_one (ps_ret (pv 4))))), ?_⟩
    refine ⟨by show 0 ≤ sizeLine; decide, fun F nF => ?_⟩
    have sF := same_new (o := .lst []) nF
    have hF : (upd H F (.lst [])) F = some (.lst []) := upd_same
    obtain ⟨F1, F2⟩ := hst.ne nF
    have hst0 := hst.same sF
    have hr0 := hr1.same sF
    have ho0 := sF _ _ ho
    have mv0 := mv_same (st := st) (cl := cl) sF
    generalize upd H F (.lst []) = H0 at sF hF hst0 hr0 ho0 mv0
    dsimp only [gName]
    refine seq_go ?_
    show (iRng1 (tCons (tIf _ _ _) tNil)) _ _ _
    show (tIf _ _ _) _ _ _
    refine te_by (fun v H' => ∃ j : Nat, v = .int (j : Int) ∧ j ≤ 14 ∧ (0 < j → ks ≠ []) ∧ Same H0 H') (fun Q' kk => ?_) (fun v H1 ⟨j, ev, j14, jk, s01⟩ => ?_)
    · obtain ⟨v, hv0, _⟩ := id hr0
      refine ⟨_, rfl, fun d nd => ⟨r, d, _, rfl, rfl, same_new nd _ _ hv0, upd_same, _, rfl, ?_⟩⟩
      have sd := same_new (o := .dK []) nd
      by_cases c : dt ks v ≠ []
      · rw [decide_eq_true c]
        exact ⟨_, rfl, kk _ _ ⟨many, rfl, mz, fun _ z => c (by rw [z]; rfl), sd⟩⟩
      · rw [decide_eq_false c]
        exact kk _ _ ⟨0, rfl, by omega, fun z => absurd z (by omega), sd⟩
    · subst ev
      refine ⟨_, rfl, by omega, by omega, ?_⟩
      have et : ((j : Nat) : Int).toNat = j := Int.toNat_natCast _
      rw [et]
      have hr2 := hr0.same s01
      have ho2 := s01 _ _ ho0
      have hst1 := hst0.same s01
      have hF1 := s01 _ _ hF
      have mv1 : Mv st cl H H1 := mv0.trans (mv_same s01)
      clear hr0 ho0 hst0 hF mv0 s01 sF
      refine for_wk (wk_range (lo := 0) (n := j) (H1 := fun _ => none)) (fun i σ H' => (∃ x5 x6 x7 x8 x9 xa xb, σ = [some (.ref st), some (.ref r), some (.ref o), some (.int (many : Int)), some (.ref F), x5, x6, x7, x8, x9, xa, xb]) ∧ (∀ b o, b ≠ F → b ≠ st → b ≠ cl → H1 b = some o → H' b = some o) ∧ StAt H' st cl (n + 3 * (14 - i)) ∧ ∃ ls, LtKept H' F ls ∧ ls.length = i ∧ ∀ l ∈ ls, l.k ∈ ks ∧ LtFit rd off l)
        ⟨⟨_, _, _, _, _, _, _, rfl⟩, fun _ _ _ _ _ e => e, hst1.mono (by omega), [], ⟨[], hF1, .nil⟩, rfl, fun l h => by simp at h⟩ (fun _ _ _ _ _ _ z => by cases z) ?_ ?_
      · rintro i u x σ H2 H3 hu ⟨⟨x5, x6, x7, x8, x9, xa, xb, rfl⟩, mv, hst2, ls, hls, lsl, lsf⟩ s23 rfl
        have hi : i < j := by
          have := (List.getElem?_eq_some_iff.mp hu).1
          simpa using this
        have en : n + 3 * (14 - i) = n + 3 * (14 - (i + 1)) + 3 := by omega
        rw [en] at hst2
        have hst3 := hst2.same s23
        have hls3 : LtKept H3 F ls := hls.same s23
        have mv3 : ∀ b o, b ≠ F → b ≠ st → b ≠ cl → H1 b = some o → H3 b = some o := fun b o n1 n2 n3 e => s23 _ _ (mv _ _ n1 n2 n3 e)
        clear hst2 hls mv s23
        generalize n + 3 * (14 - (i + 1)) = m at hst3 ⊢
        have neF : ∀ {b o}, H1 b = some o → (∀ xs, o ≠ .lst xs) → b ≠ F := fun e k => ne_of e hF1 (k _)
        have kp : ∀ {b o}, H1 b = some o → (∀ xs, o ≠ .lst xs) → H3 b = some o := fun e k => mv3 _ _ (neF e k) (hst1.nst e k).1 (hst1.nst e k).2 e
        have hr3 : RdKept H3 r ks rd := let ⟨v, e, k⟩ := hr2; ⟨v, kp e (fun _ z => by cases z), fun x hx => let ⟨b, e1, e2⟩ := k x hx; ⟨b, e1, kp e2 (fun _ z => by cases z)⟩⟩
        have ho3 := kp ho2 fun _ z => by cases z
        obtain ⟨v, hrv, _⟩ := id hr3
        refine ⟨_, rfl, _, rfl, r, dt ks v, rfl, .of hrv, fun a1 bs na hk => ?_⟩
        have hPk := pr_keys hk
        have sA := same_new (o := .lst (bs.map V.ref)) na
        refine ⟨a1, bs, ks, rfl, .of upd_same, pr_mono hPk fun b k h => sA _ _ h, fun bs' ks' p hP' pm srt np => ?_⟩
        have sP := same_new (o := .lst (bs'.map V.ref)) np
        have sAP := sA.trans sP
        have hst4 := hst3.same sAP
        have hp4 : (upd (upd H3 a1 (.lst (bs.map V.ref))) p (.lst (bs'.map V.ref))) p = some (.lst (bs'.map V.ref)) := upd_same
        have hP4 := pr_mono hP' fun b k h => sP b _ h
        have pne := (hst3.same sA).ne np
        generalize upd (upd H3 a1 (.lst (bs.map V.ref))) p (.lst (bs'.map V.ref)) = H4 at hst4 hp4 hP4 sAP
        have lks : 0 < ks.length := List.length_pos_iff.mpr (jk (by omega))
        have lbs : bs'.length = ks.length := by rw [hP4.length, pm.length_eq]
        refine ⟨st, cl, p, _, m + 2, rfl, hp4, pne, by rw [List.length_map]; omega, by rw [List.length_map]; omega, hst4, fun jj x H5 ex mv5 hst5 => ?_⟩
        rw [List.getElem?_map] at ex
        obtain ⟨t, hbt, rfl⟩ := Option.map_eq_some_iff.mp ex
        obtain ⟨k, hk', ht⟩ := pr_getL hP4 hbt
        have kks : k ∈ ks := pm.mem_iff.mp (mem_of jj hk')
        obtain ⟨ki, kj, kn⟩ := kin k kks
        have ht5 := mv5.keep hst4 ht fun _ z => by cases z
        have mv35 := (mv_same (st := st) (cl := cl) sAP).trans mv5
        have hr5 := hr3.mv hst3 mv35
        have ho5 := mv35.keep hst3 ho3 fun _ z => by cases z
        refine ⟨t, _, rfl, .of ht5, rfl, _, _, rfl, _, _, rfl, rfl, ?_⟩
        refine ⟨_, rfl, _, rfl, _, rfl, by show 2 ≤ sizeLine; decide, fun p6 n6 => ?_⟩
        have s6 := same_new (o := .tup [hv k.1, hv k.2]) n6
        obtain ⟨c, g, hcc⟩ := RdKept.get (k := k) (b := p6) (hr5.same s6) upd_same kks
        have hst6 := hst5.same s6
        have ho6 := s6 _ _ ho5
        have mv36 := mv35.trans (mv_same s6)
        refine ⟨r, .ref c, rfl, g, c, _, rfl, .of hcc, rfl, _, _, rfl, _, _, rfl, rfl, ?_⟩
        generalize upd H5 p6 (.tup [hv k.1, hv k.2]) = H6 at hst6 ho6 mv36
        clear g hcc hr5 ho5 ht5
        obtain ⟨rz0, rz5, rzm⟩ := rz k kks
        refine ⟨_, rfl, _, rfl, ?_⟩
        show (tIf _ _ _) _ _ _
        refine te_by (fun v H' => ∃ z : Int, v = .int z ∧ 0 ≤ z ∧ z ≤ 12 ∧ (∀ m, (rd k).2 = some m → z = m - (rd k).1) ∧ H' = H6) (fun Q' kk => ?_) (fun v H6' ⟨z, ev, z0, z12, zm, e6⟩ => ?_)
        · refine ⟨_, rfl, rfl, _, rfl, ?_⟩
          cases em : (rd k).2 with
          | none => exact kk _ _ ⟨12, rfl, by decide, by decide, (fun m h => by rw [em] at h; cases h), rfl⟩
          | some m0 =>
            have := rzm m0 em
            exact ⟨_, rfl, _, rfl, _, _, rfl, rfl, kk _ _ ⟨m0 - (rd k).1, rfl, by omega, by omega, (fun m h => by rw [em] at h; cases h; rfl), rfl⟩⟩
        · subst ev e6
          refine ⟨_, _, rfl, rfl, st, cl, 1 + z, m + 1, rfl, by omega, by omega, hst6, fun d7 H7 d70 d71 mv7 hst7 => ⟨_, _, rfl, rfl, ?_⟩⟩
          refine ⟨_, rfl, st, cl, 40, m, rfl, by decide, by decide, hst7, fun d8 H8 d80 d81 mv8 hst8 => ⟨_, _, rfl, ?_⟩⟩
          have mv38 := (mv36.trans mv7).trans mv8
          have ho8 := (mv7.trans mv8).keep hst6 ho6 fun _ z => by cases z
          have hls8 : LtKept H8 F ls := by
            obtain ⟨xs, e, h⟩ := hls3
            exact ⟨xs, mv38 _ _ F1 F2 e, pr_mono h fun v l ⟨b, e1, e2⟩ => ⟨b, e1, mv38.keep hst3 e2 fun _ z => by cases z⟩⟩
          obtain ⟨xs, hF8, _⟩ := id hls8
          refine ⟨_, rfl, .inl ⟨rfl, _, .of hF8⟩, _, rfl, _, rfl, _, rfl, _, rfl, o, _, rfl, get_dh (.of ho8) ki, _, _, rfl, rfl, _, rfl, _, rfl, _, rfl, _, _, rfl, rfl, _, rfl, _, rfl, o, _, rfl, get_dh (.of ho8) kj, _, _, rfl, rfl, by show 4 ≤ sizeLine; decide, fun p9 n9 => ?_⟩
          obtain ⟨l9, el9⟩ : ∃ l : Lt, l = ⟨k.1, d8 + off k.1, k.2, d8 + ((rd k).1 + d7) + off k.2⟩ := ⟨_, rfl⟩
          have s9 := same_new (o := .tup (Lt.v l9)) n9
          have hb9 : (upd H8 p9 (.tup (Lt.v l9))) p9 = some (.tup (Lt.v l9)) := upd_same
          obtain ⟨ys, hF9, ly, hls9⟩ := (hls8.same s9).app hb9
          have eq9 : upd H8 p9 (.tup (Lt.v l9)) = upd H8 p9 (.tup [hv k.1, .int (d8 + off k.1), hv k.2, .int (d8 + ((rd k).1 + d7) + off k.2)]) := by rw [el9]
          have hst9 := hst8.same s9
          have ne9 := hst8.ne n9
          rw [eq9] at hF9 hls9 hst9 s9
          refine ⟨F, ys, _, rfl, rfl, hF9, small1000 (by omega), ⟨_, _, _, _, _, _, _, rfl⟩, fun b u n1 n2 n3 e => ?_, ?_, ls ++ [l9], hls9, by simp; omega, fun l hl => ?_⟩
          · rw [upd_ne n1]
            exact s9 _ _ (mv38 _ _ n2 n3 (mv3 _ _ n1 n2 n3 e))
          · obtain ⟨ns, a, c, m', e1, e2, rr⟩ := hst9
            exact ⟨ns, a, c, m', by rw [upd_ne F1.symm]; exact e1, by rw [upd_ne F2.symm]; exact e2, rr⟩
          · rcases List.mem_append.mp hl with z | z
            · exact lsf l z
            · simp at z
              subst z
              subst el9
              have o1 := oz k.1 ki
              have o2 := oz k.2 kj
              refine ⟨kks, ?_, fun m0 hm0 => ?_, ?_, ?_⟩
              · show (rd k).1 ≤ (d8 + ((rd k).1 + d7) + off k.2 - (d8 + off k.1)) - (off k.2 - off k.1)
                omega
              · have := zm m0 hm0
                show (d8 + ((rd k).1 + d7) + off k.2 - (d8 + off k.1)) - (off k.2 - off k.1) ≤ m0
                omega
              · show (d8 + ((rd k).1 + d7) + off k.2 - (d8 + off k.1)) - (off k.2 - off k.1) ≤ 20
                omega
              · show -2000000 ≤ d8 + off k.1 ∧ d8 + off k.1 ≤ 2000000 ∧ -2000000 ≤ d8 + ((rd k).1 + d7) + off k.2 ∧ d8 + ((rd k).1 + d7) + off k.2 ≤ 2000000
                omega
      · rintro σ H2 ⟨⟨x5, x6, x7, x8, x9, xa, xb, rfl⟩, mv, hst2, ls, hls, lsl, lsf⟩
        rw [List.length_range] at hst2 lsl
        refine ⟨_, rfl, q F H2 ls (fun b u n1 n2 e => ?_) nF hls lsf (by omega) (hst2.mono (by omega))⟩
        exact mv _ _ (ne_of_none e nF) n1 n2 (mv1 _ _ n1 n2 e)
end
end K80

set_option maxHeartbeats 4000000
/-! least sums along rows: the mathematics of farL and least -/
namespace K80
/-! ### rows of edges -/
def addO : Option Int → Option Int → Option Int
  | some a, some b => some (a + b)
  | _, _ => none
theorem addO_some {x y : Option Int} {v : Int} (h : addO x y = some v) : ∃ a b, x = some a ∧ y = some b ∧ v = a + b := by
  cases x <;> cases y <;> simp [addO] at h
  exact ⟨_, _, rfl, rfl, h.symm⟩
def pathW (d : Dm) : List Nat → Option Int
  | [] => some 0
  | [_] => some 0
  | a :: b :: r => addO (d a b) (pathW d (b :: r))
theorem pathW_snoc (d : Dm) : ∀ (r : List Nat) (h : Nat), r ≠ [] → pathW d (r ++ [h]) = addO (pathW d r) (d (r.getLastD 0) h)
  | [], _, n => absurd rfl n
  | [a], h, _ => by
    show addO (d a h) (some 0) = addO (some 0) (d a h)
    cases d a h <;> simp [addO]
  | a :: b :: r, h, _ => by
    have ih := pathW_snoc d (b :: r) h (by simp)
    have e : (a :: b :: r).getLastD 0 = (b :: r).getLastD 0 := by simp [List.getLastD]
    show addO (d a b) (pathW d ((b :: r) ++ [h])) = addO (addO (d a b) (pathW d (b :: r))) (d ((a :: b :: r).getLastD 0) h)
    rw [ih, e]
    cases d a b <;> cases pathW d (b :: r) <;> cases d ((b :: r).getLastD 0) h <;> simp [addO]
    omega
theorem pathW_cut (d : Dm) (j : Nat) (q : List Nat) : ∀ p : List Nat, pathW d (p ++ j :: q) = addO (pathW d (p ++ [j])) (pathW d (j :: q))
  | [] => by
    show pathW d (j :: q) = addO (some 0) (pathW d (j :: q))
    cases pathW d (j :: q) <;> simp [addO]
  | [a] => by
    show addO (d a j) (pathW d (j :: q)) = addO (addO (d a j) (some 0)) (pathW d (j :: q))
    cases d a j <;> cases pathW d (j :: q) <;> simp [addO]
  | a :: b :: p => by
    have ih := pathW_cut d j q (b :: p)
    show addO (d a b) (pathW d ((b :: p) ++ j :: q)) = addO (addO (d a b) (pathW d ((b :: p) ++ [j]))) (pathW d (j :: q))
    rw [ih]
    cases d a b <;> cases pathW d ((b :: p) ++ [j]) <;> cases pathW d (j :: q) <;> simp [addO]
    omega
/-! ### tables filled by the least -/
theorem rowsF_sound : ∀ (rs : List ((Nat × Nat) × Int)) (d : Dm) {i j : Nat} {v : Int}, rowsF d rs i j = some v → ((i, j), v) ∈ rs ∨ d i j = some v
  | [], _, _, _, _, h => .inr h
  | r :: rs, d, i, j, v, h => by
    rcases rowsF_sound rs (shf d r.1.1 r.1.2 r.2) h with z | z
    · exact .inl (List.mem_cons_of_mem _ z)
    · unfold shf at z
      split at z
      · rename_i c
        obtain ⟨rfl, rfl⟩ := c
        unfold minO at z
        split at z
        · cases z
          exact .inl (List.mem_cons_self)
        · rename_i y hy
          split at z
          · cases z
            exact .inr hy
          · cases z
            exact .inl (List.mem_cons_self)
      · exact .inr z
def leO (x : Option Int) (b : Int) : Prop := ∃ a, x = some a ∧ a ≤ b
theorem leO.mono {x : Option Int} {a b : Int} (h : leO x a) (k : a ≤ b) : leO x b := let ⟨c, e, z⟩ := h; ⟨c, e, by omega⟩
theorem shf_le {d : Dm} {a b : Nat} {x : Int} {i j : Nat} {v : Int} (h : leO (d i j) v) : leO (shf d a b x i j) v := by
  obtain ⟨y, e, z⟩ := h
  unfold shf
  by_cases c : i = a ∧ j = b
  · obtain ⟨rfl, rfl⟩ := c
    rw [if_pos ⟨rfl, rfl⟩, e]
    refine ⟨_, rfl, ?_⟩
    show (if y < x then y else x) ≤ v
    split <;> omega
  · rw [if_neg c]
    exact ⟨y, e, z⟩
theorem shf_self {d : Dm} {i j : Nat} {x : Int} : leO (shf d i j x i j) x := by
  unfold shf
  rw [if_pos ⟨rfl, rfl⟩]
  refine ⟨_, rfl, ?_⟩
  unfold minO
  split
  · omega
  · split <;> omega
theorem rowsF_le : ∀ (rs : List ((Nat × Nat) × Int)) (d : Dm) {i j : Nat} {v : Int}, leO (d i j) v → leO (rowsF d rs i j) v
  | [], _, _, _, _, h => h
  | r :: rs, d, i, j, v, h => rowsF_le rs _ (shf_le h)
theorem rowsF_compl : ∀ (rs : List ((Nat × Nat) × Int)) (d : Dm) {i j : Nat} {v : Int}, ((i, j), v) ∈ rs → leO (rowsF d rs i j) v
  | r :: rs, d, i, j, v, h => by
    rcases List.mem_cons.mp h with e | e
    · subst e
      exact rowsF_le rs _ shf_self
    · exact rowsF_compl rs _ e
theorem rowsF_app (d : Dm) (a b : List ((Nat × Nat) × Int)) : rowsF d (a ++ b) = rowsF (rowsF d a) b := List.foldl_append
theorem rowsF_flat {α : Type} (F : α → List ((Nat × Nat) × Int)) : ∀ (l : List α) (d : Dm), l.foldl (fun d x => rowsF d (F x)) d = rowsF d (l.flatMap F)
  | [], _ => rfl
  | x :: l, d => by
    rw [List.flatMap_cons, rowsF_app, List.foldl_cons, rowsF_flat F l]
theorem direct_eq (rd : Nat × Nat → Int × Option Int) (ls : List Lt) : direct rd ls = rowsF (fun _ _ => none) (ls.flatMap (dRows rd)) := rowsF_flat (dRows rd) ls _
/-! ### the law's far sums: the least along simple rows -/
def entR (hs : List Nat) (d : Dm) (s n : Nat) : List ((Nat × Nat) × Int) := (List.range n).flatMap fun k => (lvF hs d s (k + 1)).map fun e => ((s, e.1.getLastD 0), e.2)
theorem runF_eq (hs : List Nat) (d : Dm) (s : Nat) (f : Dm) : ∀ n, runF hs d s f n = rowsF f (entR hs d s n)
  | 0 => rfl
  | n + 1 => by
    have ih := runF_eq hs d s f n
    unfold entR at ih ⊢
    rw [List.range_succ, List.flatMap_append, rowsF_app, ← ih]
    show (lvF hs d s (n + 1)).foldl (putF s) (runF hs d s f n) = _
    generalize runF hs d s f n = g
    rw [List.flatMap_cons, List.flatMap_nil, List.append_nil]
    show _ = ((lvF hs d s (n + 1)).map fun e => ((s, e.1.getLastD 0), e.2)).foldl _ g
    rw [List.foldl_map]
    rfl
theorem farL_eq (hs : List Nat) (d : Dm) : farL hs d = rowsF (fun _ _ => none) (hs.flatMap fun s => entR hs d s hs.length) := by
  unfold farL
  rw [← rowsF_flat]
  congr 1
  funext f s
  exact runF_eq hs d s f _
/-- a simple row of hands from i to j along edges, of the sum v -/
structure Row (hs : List Nat) (d : Dm) (i j : Nat) (r : List Nat) (v : Int) : Prop where
  hd : r.headD 0 = i
  lt : r.getLastD 0 = j
  ne : r ≠ []
  nd : r.Nodup
  mem : ∀ h ∈ r, h ∈ hs
  w : pathW d r = some v
theorem lvF_sound {hs : List Nat} {d : Dm} {s : Nat} (h1 : s ∈ hs) : ∀ {k : Nat} {e : List Nat × Int}, e ∈ lvF hs d s k → Row hs d s (e.1.getLastD 0) e.1 e.2
  | 0, e, h => by
    have : e = ([s], 0) := by simpa [lvF] using h
    subst this
    exact ⟨rfl, rfl, by simp, by simp, fun x hx => by simp at hx; exact hx ▸ h1, rfl⟩
  | k + 1, e, h => by
    obtain ⟨a1, a2, a3⟩ := lvF_row h1 h
    obtain ⟨e0, h0, h2⟩ := List.mem_flatMap.mp h
    rw [rowX_eq] at h2
    obtain ⟨x, hx, h2⟩ := List.mem_flatMap.mp h2
    obtain ⟨y, hy, rfl⟩ := mem_stepX h2
    have ih := lvF_sound h1 h0
    refine ⟨?_, rfl, by simp, a2, a3, ?_⟩
    · have := ih.hd
      have ne := ih.ne
      cases h : e0.1 with
      | nil => exact absurd h ne
      | cons a r => rw [h] at this; exact this
    · show pathW d (e0.1 ++ [x]) = some (e0.2 + y)
      rw [pathW_snoc d _ _ ih.ne, ih.w, hy]
      rfl
theorem lvF_compl {hs : List Nat} {d : Dm} {s : Nat} : ∀ {k : Nat} {r : List Nat} {v : Int}, r.length = k + 1 → r.headD 0 = s → r.Nodup → (∀ h ∈ r, h ∈ hs) → pathW d r = some v → (r, v) ∈ lvF hs d s k
  | 0, r, v, hl, hh, nd, hm, hw => by
    match r, hl with
    | [a], _ =>
      have ha : a = s := hh
      subst ha
      have : v = 0 := by
        have : some (0 : Int) = some v := hw
        injection this with this
        omega
      subst this
      simp [lvF]
  | k + 1, r, v, hl, hh, nd, hm, hw => by
    obtain ⟨r0, x, rfl⟩ : ∃ r0 x, r = r0 ++ [x] := by
      rcases List.eq_nil_or_concat r with e | ⟨r0, x, e⟩
      · subst e; simp at hl
      · exact ⟨r0, x, by rw [e, List.concat_eq_append]⟩
    have hl0 : r0.length = k + 1 := by simp at hl; omega
    have ne : r0 ≠ [] := fun z => by subst z; simp at hl0
    rw [pathW_snoc d _ _ ne] at hw
    obtain ⟨a, b, ea, eb, rfl⟩ := addO_some hw
    have nd0 := List.nodup_append.mp nd
    have hh0 : r0.headD 0 = s := by
      cases h : r0 with
      | nil => exact absurd h ne
      | cons y t => rw [h] at hh; exact hh
    have ih := lvF_compl hl0 hh0 nd0.1 (fun h hh => hm h (List.mem_append_left _ hh)) ea
    refine List.mem_flatMap.mpr ⟨(r0, a), ih, ?_⟩
    rw [rowX_eq]
    refine List.mem_flatMap.mpr ⟨x, List.mem_filter.mpr ⟨hm x (by simp), ?_⟩, ?_⟩
    · have : x ∉ r0 := fun z => nd0.2.2 x z x (by simp) rfl
      unfold ptF
      rw [decide_eq_false this]
      rfl
    · unfold stepX
      show (r0 ++ [x], a + b) ∈ match d (r0.getLastD 0) x with | none => [] | some x_1 => [(r0 ++ [x], a + x_1)]
      rw [eb]
      simp
theorem row_len {hs : List Nat} {d : Dm} {i j : Nat} {r : List Nat} {v : Int} (R : Row hs d i j r v) : r.length ≤ hs.length := nodup_le R.nd R.mem
theorem farL_sound {hs : List Nat} {d : Dm} {i j : Nat} {v : Int} (h : farL hs d i j = some v) : i ∈ hs ∧ i ≠ j ∧ ∃ r, Row hs d i j r v := by
  rw [farL_eq] at h
  rcases rowsF_sound _ _ h with z | z
  · obtain ⟨s, h1, h2⟩ := List.mem_flatMap.mp z
    unfold entR at h2
    obtain ⟨k, hk, h3⟩ := List.mem_flatMap.mp h2
    obtain ⟨e, he, h4⟩ := List.mem_map.mp h3
    have h5 : s = i ∧ e.1.getLastD 0 = j ∧ e.2 = v := by
      injection h4 with h4 h5
      injection h4 with h4 h6
      exact ⟨h4, h6, h5⟩
    obtain ⟨rfl, rfl, rfl⟩ := h5
    have R := lvF_sound h1 he
    refine ⟨h1, ?_, e.1, R⟩
    obtain ⟨l1, l2, _⟩ := lvF_row h1 he
    have hd := R.hd
    intro c
    match hr : e.1, l1, l2, hd, c with
    | a :: b :: t, _, l2, hd, c =>
      have ha : a = s := hd
      subst ha
      have : a ∈ b :: t := by
        have e2 : (a :: b :: t).getLastD 0 = (b :: t).getLast (by simp) := by simp [List.getLastD]
        rw [e2] at c
        rw [c]
        exact List.getLast_mem _
      exact (List.nodup_cons.mp l2).1 this
  · cases z
theorem farL_compl {hs : List Nat} {d : Dm} {i j : Nat} {r : List Nat} {v : Int} (R : Row hs d i j r v) (h : i ≠ j) : leO (farL hs d i j) v := by
  rw [farL_eq]
  refine rowsF_compl _ _ ?_
  have hi : i ∈ hs := by
    have := R.hd
    cases hr : r with
    | nil => exact absurd hr R.ne
    | cons a t =>
      rw [hr] at this
      have : a = i := this
      subst this
      exact R.mem a (by rw [hr]; simp)
  obtain ⟨k, hk⟩ : ∃ k, r.length = k + 2 := by
    match hr : r, R.ne, R.hd, R.lt with
    | [a], _, h1, h2 =>
      have h1 : a = i := h1
      have h2 : a = j := h2
      exact absurd (h1.symm.trans h2) h
    | a :: b :: t, _, _, _ => exact ⟨t.length, by simp⟩
  have hl := row_len R
  refine List.mem_flatMap.mpr ⟨i, hi, List.mem_flatMap.mpr ⟨k, List.mem_range.mpr (by omega), List.mem_map.mpr ⟨(r, v), lvF_compl (by omega) R.hd R.nd R.mem R.w, ?_⟩⟩⟩
  show ((i, r.getLastD 0), v) = ((i, j), v)
  rw [R.lt]
/-- no ring of edges has a sum below 0 -/
def Cyc (hs : List Nat) (d : Dm) : Prop := ∀ (r : List Nat) (v w : Int), r ≠ [] → r.Nodup → (∀ h ∈ r, h ∈ hs) → pathW d r = some v → d (r.getLastD 0) (r.headD 0) = some w → 0 ≤ v + w
theorem last_app {p q : List Nat} (h : q ≠ []) : (p ++ q).getLastD 0 = q.getLastD 0 := by
  cases q with
  | nil => exact absurd rfl h
  | cons a t =>
    have e1 : (p ++ a :: t) ≠ [] := by simp
    rw [List.getLastD_eq_getLast?, List.getLastD_eq_getLast?, List.getLast?_append]
    simp [List.getLast?_cons]
/-- a row, and one edge more -/
theorem farL_step {hs : List Nat} {d : Dm} (C : Cyc hs d) {i k j : Nat} {r : List Nat} {v w : Int} (R : Row hs d i k r v) (hj : j ∈ hs) (n : i ≠ j) (e : d k j = some w) : leO (farL hs d i j) (v + w) := by
  by_cases c : j ∈ r
  · obtain ⟨p, q, rfl⟩ := List.append_of_mem c
    have hw := R.w
    rw [pathW_cut] at hw
    obtain ⟨a, b, ea, eb, rfl⟩ := addO_some hw
    have ndr := R.nd
    have nd := List.nodup_append.mp ndr
    have hp : p ≠ [] := fun z => by
      subst z
      exact n (R.hd.symm)
    have z := C (j :: q) b w (by simp) nd.2.1 (fun h hh => R.mem h (List.mem_append_right _ hh)) eb (by
      have := R.lt
      rw [last_app (by simp)] at this
      rw [this]
      exact e)
    refine (farL_compl (r := p ++ [j]) (v := a) ⟨?_, ?_, by simp, ?_, ?_, ea⟩ n).mono (by omega)
    · have := R.hd
      cases h : p with
      | nil => exact absurd h hp
      | cons x t => rw [h] at this; exact this
    · rw [last_app (by simp)]; rfl
    · have : (p ++ [j]) ++ q = p ++ j :: q := by simp
      rw [← this] at ndr
      exact (List.nodup_append.mp ndr).1
    · intro h hh
      refine R.mem h ?_
      rcases List.mem_append.mp hh with z | z
      · exact List.mem_append_left _ z
      · simp at z
        subst z
        simp
  · refine farL_compl (r := r ++ [j]) ⟨?_, ?_, by simp, ?_, ?_, ?_⟩ n
    · have := R.hd
      cases h : r with
      | nil => exact absurd h R.ne
      | cons x t => rw [h] at this; exact this
    · rw [last_app (by simp)]; rfl
    · refine List.nodup_append.mpr ⟨R.nd, by simp, fun a ha b hb z => ?_⟩
      simp at hb
      subst hb
      exact c (z ▸ ha)
    · intro h hh
      rcases List.mem_append.mp hh with z | z
      · exact R.mem h z
      · simp at z
        exact z ▸ hj
    · rw [pathW_snoc d _ _ R.ne, R.w, R.lt, e]
      rfl
theorem row_one {hs : List Nat} {d : Dm} {i : Nat} (h : i ∈ hs) : Row hs d i i [i] 0 := ⟨rfl, rfl, by simp, by simp, fun x hx => by simp at hx; exact hx ▸ h, rfl⟩
/-- a ring closed by one edge -/
theorem cyc_close {hs : List Nat} {d : Dm} (C : Cyc hs d) {i k : Nat} {r : List Nat} {v w : Int} (R : Row hs d i k r v) (e : d k i = some w) : 0 ≤ v + w :=
  C r v w R.ne R.nd R.mem R.w (by rw [R.lt, R.hd]; exact e)
/-! ### walks -/
inductive Wlk (hs : List Nat) (d : Dm) : Nat → Nat → Int → Prop
  | one {i j v} : i ∈ hs → j ∈ hs → d i j = some v → Wlk hs d i j v
  | two {i k j a b} : Wlk hs d i k a → Wlk hs d k j b → Wlk hs d i j (a + b)
/-- a walk begun by a row, ended by a row no longer -/
theorem wlk_row {hs : List Nat} {d : Dm} (C : Cyc hs d) {k j : Nat} {b : Int} (W : Wlk hs d k j b) : ∀ {i : Nat} {a : Int}, i ∈ hs → (∃ r v, Row hs d i k r v ∧ v ≤ a) → ∃ r v, Row hs d i j r v ∧ v ≤ a + b := by
  induction W with
  | one hk hj e =>
    rename_i k j b
    intro i a hi ⟨r, v, R, hv⟩
    by_cases c : i = j
    · subst c
      have := cyc_close C R e
      exact ⟨[i], 0, row_one hi, by omega⟩
    · obtain ⟨x, ex, hx⟩ := farL_step C R hj c e
      obtain ⟨_, _, r2, R2⟩ := farL_sound ex
      exact ⟨r2, x, R2, by omega⟩
  | two W1 W2 ih1 ih2 =>
    intro i a hi h
    obtain ⟨r, v, R, hv⟩ := ih2 hi (ih1 hi h)
    exact ⟨r, v, R, by omega⟩
theorem wlk_mem {hs : List Nat} {d : Dm} {i j : Nat} {v : Int} (W : Wlk hs d i j v) : i ∈ hs ∧ j ∈ hs := by
  induction W with
  | one h1 h2 _ => exact ⟨h1, h2⟩
  | two _ _ h1 h2 => exact ⟨h1.1, h2.2⟩
theorem wlk_far {hs : List Nat} {d : Dm} (C : Cyc hs d) {i j : Nat} {v : Int} (W : Wlk hs d i j v) (n : i ≠ j) : leO (farL hs d i j) v := by
  have hi := (wlk_mem W).1
  obtain ⟨r, x, R, hx⟩ := wlk_row C W hi ⟨[i], 0, row_one hi, Int.le_refl _⟩
  exact (farL_compl R n).mono (by omega)
theorem row_wlk {hs : List Nat} {d : Dm} : ∀ {r : List Nat} {v : Int}, 2 ≤ r.length → (∀ h ∈ r, h ∈ hs) → pathW d r = some v → Wlk hs d (r.headD 0) (r.getLastD 0) v
  | [a, b], v, _, hm, hw => by
    obtain ⟨x, y, ex, ey, rfl⟩ := addO_some hw
    have : y = 0 := by
      have : some (0 : Int) = some y := ey
      injection this with this
      omega
    subst this
    exact .one (hm a (by simp)) (hm b (by simp)) (by show d a b = _; rw [ex]; simp)
  | a :: b :: c :: t, v, _, hm, hw => by
    obtain ⟨x, y, ex, ey, rfl⟩ := addO_some hw
    have ih := row_wlk (hs := hs) (r := b :: c :: t) (by simp) (fun h hh => hm h (List.mem_cons_of_mem _ hh)) ey
    have e : (a :: b :: c :: t).getLastD 0 = (b :: c :: t).getLastD 0 := by simp [List.getLastD]
    rw [e]
    exact .two (.one (hm a (by simp)) (hm b (by simp)) ex) ih
theorem farL_wlk {hs : List Nat} {d : Dm} {i j : Nat} {v : Int} (h : farL hs d i j = some v) : Wlk hs d i j v := by
  obtain ⟨hi, n, r, R⟩ := farL_sound h
  have hl : 2 ≤ r.length := by
    match hr : r, R.ne, R.hd, R.lt with
    | [a], _, h1, h2 =>
      have h1 : a = i := h1
      have h2 : a = j := h2
      exact absurd (h1.symm.trans h2) n
    | a :: b :: t, _, _, _ => simp
  have := row_wlk (hs := hs) hl R.mem R.w
  rw [R.hd, R.lt] at this
  exact this
end K80

set_option maxHeartbeats 4000000
/-! the program's least sums: the mathematics -/
namespace K80
def rel (f : Dm) (mid i j : Nat) : Option Int := match f i mid, f mid j with
  | some a, some b => (match f i j with
    | none => some (a + b)
    | some c => if a + b < c then some (a + b) else some c)
  | _, _ => f i j
theorem fwStep_get (f : Dm) (mid one other : Nat) : fwStep f mid one other = fun a b => if a = one ∧ b = other then rel f mid one other else f a b := by
  funext a b
  by_cases c : a = one ∧ b = other
  · obtain ⟨rfl, rfl⟩ := c
    rw [if_pos ⟨rfl, rfl⟩]
    unfold fwStep rel
    cases f a mid with
    | none => rfl
    | some x =>
      cases f mid b with
      | none => rfl
      | some y =>
        cases h : f a b with
        | none => simp [up2]
        | some z =>
          by_cases hl : x + y < z
          · simp [hl, up2]
          · simp [hl, h]
  · rw [if_neg c]
    unfold fwStep
    cases f one mid with
    | none => rfl
    | some x =>
      cases f mid other with
      | none => rfl
      | some y =>
        cases h : f one other with
        | none => simp [up2, c]
        | some z =>
          by_cases hl : x + y < z
          · simp [hl, up2, c]
          · simp [hl]
theorem rel_col {f : Dm} {mid a : Nat} (h : ∀ v, f mid mid = some v → 0 ≤ v) : rel f mid a mid = f a mid := by
  unfold rel
  cases e1 : f a mid with
  | none => rfl
  | some x =>
    cases e2 : f mid mid with
    | none => rfl
    | some m =>
      have := h m e2
      show (if x + m < x then some (x + m) else some x) = some x
      rw [if_neg (by omega)]
theorem rel_row {f : Dm} {mid b : Nat} (h : ∀ v, f mid mid = some v → 0 ≤ v) : rel f mid mid b = f mid b := by
  unfold rel
  cases e2 : f mid mid with
  | none => rfl
  | some m =>
    cases e1 : f mid b with
    | none => rfl
    | some x =>
      have := h m e2
      show (if m + x < x then some (m + x) else some x) = some x
      rw [if_neg (by omega)]
theorem rel_le {f : Dm} {m i j : Nat} {v : Int} (h : leO (f i j) v) : leO (rel f m i j) v := by
  obtain ⟨y, e, z⟩ := h
  unfold rel
  rw [e]
  cases f i m with
  | none => exact ⟨y, rfl, z⟩
  | some a =>
    cases f m j with
    | none => exact ⟨y, rfl, z⟩
    | some b =>
      by_cases c : a + b < y
      · exact ⟨a + b, by simp [c], by omega⟩
      · exact ⟨y, by simp [c], z⟩
theorem rel_sum {f : Dm} {m i j : Nat} {a b : Int} (h1 : f i m = some a) (h2 : f m j = some b) : leO (rel f m i j) (a + b) := by
  unfold rel
  rw [h1, h2]
  cases f i j with
  | none => exact ⟨_, rfl, Int.le_refl _⟩
  | some c =>
    by_cases z : a + b < c
    · exact ⟨a + b, by simp [z], Int.le_refl _⟩
    · exact ⟨c, by simp [z], by omega⟩
theorem rel_or {f : Dm} {m i j : Nat} {v : Int} (h : rel f m i j = some v) : f i j = some v ∨ ∃ a b, f i m = some a ∧ f m j = some b ∧ v = a + b := by
  unfold rel at h
  cases e1 : f i m with
  | none => rw [e1] at h; exact .inl h
  | some a =>
    cases e2 : f m j with
    | none => rw [e1, e2] at h; exact .inl h
    | some b =>
      cases e3 : f i j with
      | none =>
        rw [e1, e2, e3] at h
        injection h with h
        exact .inr ⟨a, b, rfl, rfl, h.symm⟩
      | some c =>
        rw [e1, e2, e3] at h
        by_cases z : a + b < c
        · simp [z] at h
          exact .inr ⟨a, b, rfl, rfl, h.symm⟩
        · simp [z] at h
          exact .inl (by rw [h])
/-- half done with the mid m -/
structure MidI (f : Dm) (m : Nat) (g : Dm) (S : List (Nat × Nat)) : Prop where
  or : ∀ a b, g a b = f a b ∨ g a b = rel f m a b
  done : ∀ p ∈ S, g p.1 p.2 = rel f m p.1 p.2
  out : ∀ a b, (a, b) ∉ S → g a b = f a b
theorem midI_rel {f : Dm} {m : Nat} {g : Dm} {S : List (Nat × Nat)} (h0 : ∀ v, f m m = some v → 0 ≤ v) (I : MidI f m g S) (a b : Nat) : rel g m a b = rel f m a b := by
  have h1 : g a m = f a m := by
    rcases I.or a m with e | e
    · exact e
    · rw [e, rel_col h0]
  have h2 : g m b = f m b := by
    rcases I.or m b with e | e
    · exact e
    · rw [e, rel_row h0]
  rcases I.or a b with e | e
  · unfold rel
    rw [h1, h2, e]
  · unfold rel at e ⊢
    rw [h1, h2, e]
    cases f a m with
    | none => rfl
    | some x =>
      cases f m b with
      | none => rfl
      | some y =>
        cases f a b with
        | none =>
          show (if x + y < x + y then some (x + y) else some (x + y)) = some (x + y)
          split <;> rfl
        | some z =>
          by_cases c : x + y < z
          · simp [c]
          · simp [c]
theorem midI_step {f : Dm} {m : Nat} {g : Dm} {S : List (Nat × Nat)} (h0 : ∀ v, f m m = some v → 0 ≤ v) (I : MidI f m g S) (p : Nat × Nat) : MidI f m (fwStep g m p.1 p.2) (p :: S) := by
  rw [fwStep_get]
  refine ⟨fun a b => ?_, fun q hq => ?_, fun a b hn => ?_⟩
  · show (if a = p.1 ∧ b = p.2 then _ else _) = _ ∨ (if a = p.1 ∧ b = p.2 then _ else _) = _
    by_cases c : a = p.1 ∧ b = p.2
    · obtain ⟨rfl, rfl⟩ := c
      rw [if_pos ⟨rfl, rfl⟩]
      exact .inr (midI_rel h0 I _ _)
    · rw [if_neg c]
      exact I.or a b
  · show (if q.1 = p.1 ∧ q.2 = p.2 then _ else _) = _
    by_cases c : q.1 = p.1 ∧ q.2 = p.2
    · rw [if_pos c, c.1, c.2]
      exact midI_rel h0 I _ _
    · rw [if_neg c]
      rcases List.mem_cons.mp hq with e | e
      · exact absurd (by rw [e]; exact ⟨rfl, rfl⟩) c
      · exact I.done q e
  · show (if a = p.1 ∧ b = p.2 then _ else _) = _
    have c : ¬ (a = p.1 ∧ b = p.2) := fun c => hn (by rw [c.1, c.2]; exact List.mem_cons_self)
    rw [if_neg c]
    exact I.out a b fun z => hn (List.mem_cons_of_mem _ z)
theorem midI_in {f : Dm} {m one : Nat} (h0 : ∀ v, f m m = some v → 0 ≤ v) : ∀ (os : List Nat) {g : Dm} {S : List (Nat × Nat)}, MidI f m g S → ∃ S', MidI f m (os.foldl (fun f other => fwStep f m one other) g) S' ∧ (∀ p, p ∈ S' ↔ p ∈ S ∨ (p.1 = one ∧ p.2 ∈ os))
  | [], g, S, I => ⟨S, I, fun p => by simp⟩
  | o :: os, g, S, I => by
    obtain ⟨S', I', h⟩ := midI_in h0 os (midI_step h0 I (one, o))
    refine ⟨S', I', fun p => ?_⟩
    rw [h p]
    constructor
    · rintro (z | ⟨z1, z2⟩)
      · rcases List.mem_cons.mp z with e | e
        · subst e
          exact .inr ⟨rfl, by simp⟩
        · exact .inl e
      · exact .inr ⟨z1, List.mem_cons_of_mem _ z2⟩
    · rintro (z | ⟨z1, z2⟩)
      · exact .inl (List.mem_cons_of_mem _ z)
      · rcases List.mem_cons.mp z2 with e | e
        · exact .inl (by rw [show p = (one, o) from Prod.ext z1 e]; exact List.mem_cons_self)
        · exact .inr ⟨z1, e⟩
theorem midI_all {f : Dm} {m : Nat} (hs : List Nat) (h0 : ∀ v, f m m = some v → 0 ≤ v) : ∀ (ns : List Nat) {g : Dm} {S : List (Nat × Nat)}, MidI f m g S → ∃ S', MidI f m (ns.foldl (fun f one => fwIn hs m one f) g) S' ∧ (∀ p, p ∈ S' ↔ p ∈ S ∨ (p.1 ∈ ns ∧ p.2 ∈ hs))
  | [], g, S, I => ⟨S, I, fun p => by simp⟩
  | o :: os, g, S, I => by
    obtain ⟨S1, I1, h1⟩ := midI_in (one := o) h0 hs I
    obtain ⟨S', I', h⟩ := midI_all hs h0 os I1
    refine ⟨S', I', fun p => ?_⟩
    rw [h p, h1 p]
    constructor
    · rintro ((z | ⟨z1, z2⟩) | ⟨z1, z2⟩)
      · exact .inl z
      · exact .inr ⟨by rw [z1]; simp, z2⟩
      · exact .inr ⟨List.mem_cons_of_mem _ z1, z2⟩
    · rintro (z | ⟨z1, z2⟩)
      · exact .inl (.inl z)
      · rcases List.mem_cons.mp z1 with e | e
        · exact .inl (.inr ⟨e, z2⟩)
        · exact .inr ⟨e, z2⟩
theorem fwMid_get {f : Dm} {m : Nat} (hs : List Nat) (h0 : ∀ v, f m m = some v → 0 ≤ v) (i j : Nat) : fwMid hs m f i j = if i ∈ hs ∧ j ∈ hs then rel f m i j else f i j := by
  obtain ⟨S, I, h⟩ := midI_all hs h0 hs (g := f) (S := []) ⟨fun a b => .inl rfl, fun p hp => by simp at hp, fun a b _ => rfl⟩
  by_cases c : i ∈ hs ∧ j ∈ hs
  · rw [if_pos c]
    exact I.done (i, j) ((h (i, j)).mpr (.inr c))
  · rw [if_neg c]
    exact I.out i j fun z => c (((h (i, j)).mp z).resolve_left (by simp))
/-- what stands after some mids -/
structure FwI (hs : List Nat) (d f : Dm) (M : List Nat) : Prop where
  walk : ∀ i j v, f i j = some v → Wlk hs d i j v
  le : ∀ i j v, d i j = some v → leO (f i j) v
  tri : ∀ k ∈ M, ∀ i j a b, f i k = some a → f k j = some b → leO (f i j) (a + b)
theorem wlk_ring {hs : List Nat} {d : Dm} (C : Cyc hs d) {i : Nat} {v : Int} (W : Wlk hs d i i v) : 0 ≤ v := by
  have hi := (wlk_mem W).1
  obtain ⟨r, x, R, hx⟩ := wlk_row C W hi ⟨[i], 0, row_one hi, Int.le_refl _⟩
  have : r = [i] := by
    match hr : r, R.ne, R.hd, R.lt, R.nd with
    | [a], _, h1, _, _ =>
      have h1 : a = i := h1
      rw [h1]
    | a :: b :: t, _, h1, h2, nd =>
      have h1 : a = i := h1
      exfalso
      refine (List.nodup_cons.mp nd).1 ?_
      have e2 : (a :: b :: t).getLastD 0 = (b :: t).getLast (by simp) := by simp [List.getLastD]
      rw [e2] at h2
      rw [h1, ← h2]
      exact List.getLast_mem _
  have hw := R.w
  rw [this] at hw
  have : some (0 : Int) = some x := hw
  injection this with this
  omega
theorem fwI_step {hs : List Nat} {d f : Dm} {M : List Nat} (C : Cyc hs d) (I : FwI hs d f M) (m : Nat) : FwI hs d (fwMid hs m f) (m :: M) := by
  have h0 : ∀ v, f m m = some v → 0 ≤ v := fun v e => wlk_ring C (I.walk _ _ _ e)
  have g := fwMid_get (f := f) (m := m) hs h0
  have mem : ∀ {i j v}, f i j = some v → i ∈ hs ∧ j ∈ hs := fun e => wlk_mem (I.walk _ _ _ e)
  have lo : ∀ {i j v}, leO (f i j) v → leO (fwMid hs m f i j) v := fun {i j v} h => by
    rw [g]
    split
    · exact rel_le h
    · exact h
  have sm : ∀ {i j a b}, f i m = some a → f m j = some b → leO (fwMid hs m f i j) (a + b) := fun {i j a b} h1 h2 => by
    rw [g, if_pos ⟨(mem h1).1, (mem h2).2⟩]
    exact rel_sum h1 h2
  have or : ∀ {i j v}, fwMid hs m f i j = some v → f i j = some v ∨ ∃ a b, f i m = some a ∧ f m j = some b ∧ v = a + b := fun {i j v} h => by
    rw [g] at h
    split at h
    · exact rel_or h
    · exact .inl h
  refine ⟨fun i j v h => ?_, fun i j v h => lo (I.le i j v h), fun k hk i j x y h1 h2 => ?_⟩
  · rcases or h with e | ⟨a, b, e1, e2, rfl⟩
    · exact I.walk _ _ _ e
    · exact .two (I.walk _ _ _ e1) (I.walk _ _ _ e2)
  · by_cases c : k = m
    · subst c
      have e1 : f i k = some x := by
        rw [g] at h1
        split at h1
        · rw [rel_col h0] at h1; exact h1
        · exact h1
      have e2 : f k j = some y := by
        rw [g] at h2
        split at h2
        · rw [rel_row h0] at h2; exact h2
        · exact h2
      exact sm e1 e2
    · have hk' : k ∈ M := by
        rcases List.mem_cons.mp hk with e | e
        · exact absurd e c
        · exact e
      rcases or h1 with e1 | ⟨a, b, e1, e2, rfl⟩
      · rcases or h2 with e3 | ⟨a', b', e3, e4, rfl⟩
        · exact lo (I.tri k hk' i j x y e1 e3)
        · obtain ⟨z, ez, hz⟩ := I.tri k hk' i m x a' e1 e3
          exact (sm ez e4).mono (by omega)
      · rcases or h2 with e3 | ⟨a', b', e3, e4, rfl⟩
        · obtain ⟨z, ez, hz⟩ := I.tri k hk' m j b y e2 e3
          exact (sm e1 ez).mono (by omega)
        · obtain ⟨z, ez, hz⟩ := I.tri k hk' m m b a' e2 e3
          have := h0 z ez
          exact (sm e1 e4).mono (by omega)
theorem fwI_all {hs : List Nat} {d : Dm} (C : Cyc hs d) : ∀ (ms : List Nat) {f : Dm} {M : List Nat}, FwI hs d f M → ∃ M', FwI hs d (ms.foldl (fun f mid => fwMid hs mid f) f) M' ∧ ∀ k, k ∈ M' ↔ k ∈ M ∨ k ∈ ms
  | [], f, M, I => ⟨M, I, fun k => by simp⟩
  | m :: ms, f, M, I => by
    obtain ⟨M', I', h⟩ := fwI_all C ms (fwI_step C I m)
    refine ⟨M', I', fun k => ?_⟩
    rw [h k]
    simp only [List.mem_cons]
    constructor
    · rintro ((a | b) | c)
      · exact .inr (.inl a)
      · exact .inl b
      · exact .inr (.inr c)
    · rintro (a | b | c)
      · exact .inl (.inr a)
      · exact .inl (.inl b)
      · exact .inr c
/-- edges are between hands -/
def In2 (hs : List Nat) (d : Dm) : Prop := ∀ i j v, d i j = some v → i ∈ hs ∧ j ∈ hs
/-- THE LEAST SUMS -/
structure LeastOk (hs : List Nat) (d f : Dm) : Prop where
  walk : ∀ i j v, f i j = some v → Wlk hs d i j v
  le : ∀ i j v, Wlk hs d i j v → leO (f i j) v
theorem least_ok {hs : List Nat} {d : Dm} (C : Cyc hs d) (h2 : In2 hs d) : LeastOk hs d (least hs d) := by
  obtain ⟨M, I, h⟩ := fwI_all C hs (f := d) (M := []) ⟨fun i j v e => .one (h2 i j v e).1 (h2 i j v e).2 e, fun i j v e => ⟨v, e, Int.le_refl _⟩, fun k hk => by simp at hk⟩
  refine ⟨I.walk, fun i j v W => ?_⟩
  induction W with
  | one _ _ e => exact I.le _ _ _ e
  | two W1 W2 ih1 ih2 =>
    rename_i i k j a b
    obtain ⟨x, ex, hx⟩ := ih1
    obtain ⟨y, ey, hy⟩ := ih2
    exact (I.tri k ((h k).mpr (.inr (wlk_mem W1).2)) i j x y ex ey).mono (by omega)
/-- the two ways of least sums agree -/
theorem least_farL {hs : List Nat} {d : Dm} (C : Cyc hs d) (h2 : In2 hs d) {i j : Nat} (n : i ≠ j) : farL hs d i j = least hs d i j := by
  have L := least_ok C h2
  cases e : farL hs d i j with
  | none =>
    cases e2 : least hs d i j with
    | none => rfl
    | some v =>
      obtain ⟨x, ex, _⟩ := wlk_far C (L.walk _ _ _ e2) n
      rw [e] at ex
      cases ex
  | some v =>
    obtain ⟨x, ex, hx⟩ := L.le _ _ _ (farL_wlk e)
    obtain ⟨y, ey, hy⟩ := wlk_far C (L.walk _ _ _ ex) n
    rw [e] at ey
    cases ey
    rw [ex]
    congr 1
    omega
/-! ### sizes -/
def DSz (d : Dm) (n : Nat) : Prop := ∀ i j v, d i j = some v → v.natAbs < 2 ^ n
theorem fwMid_sz {hs : List Nat} {f : Dm} {m n : Nat} (h0 : ∀ v, f m m = some v → 0 ≤ v) (z : DSz f n) : DSz (fwMid hs m f) (n + 1) := by
  intro i j v h
  have up : ∀ {x : Int}, x.natAbs < 2 ^ n → x.natAbs < 2 ^ (n + 1) := fun h => by rw [Nat.pow_succ]; omega
  rw [fwMid_get hs h0] at h
  split at h
  · rcases rel_or h with e | ⟨a, b, e1, e2, rfl⟩
    · exact up (z _ _ _ e)
    · have h1 := z _ _ _ e1
      have h2 := z _ _ _ e2
      rw [Nat.pow_succ]
      omega
  · exact up (z _ _ _ h)
theorem fwAll_sz {hs : List Nat} {d : Dm} (C : Cyc hs d) : ∀ (ms : List Nat) {f : Dm} {M : List Nat} {n : Nat}, FwI hs d f M → DSz f n → DSz (ms.foldl (fun f mid => fwMid hs mid f) f) (n + ms.length)
  | [], f, M, n, I, z => z
  | m :: ms, f, M, n, I, z => by
    have z1 := fwMid_sz (hs := hs) (m := m) (fun v e => wlk_ring C (I.walk _ _ _ e)) z
    have := fwAll_sz C ms (fwI_step C I m) z1
    rw [List.length_cons]
    rw [show n + 1 + ms.length = n + (ms.length + 1) from by omega] at this
    exact this
theorem least_sz {hs : List Nat} {d : Dm} (C : Cyc hs d) (h2 : In2 hs d) {n : Nat} (z : DSz d n) : DSz (least hs d) (n + hs.length) :=
  fwAll_sz C hs (f := d) (M := []) ⟨fun i j v e => .one (h2 i j v e).1 (h2 i j v e).2 e, fun i j v e => ⟨v, e, Int.le_refl _⟩, fun k hk => by simp at hk⟩ z
/-! ### a placing of the hands that fits all edges -/
def Fit (d : Dm) (p : Nat → Int) : Prop := ∀ i j v, d i j = some v → p j - p i ≤ v
theorem fit_path {d : Dm} {p : Nat → Int} (F : Fit d p) : ∀ {r : List Nat} {v : Int}, r ≠ [] → pathW d r = some v → p (r.getLastD 0) - p (r.headD 0) ≤ v
  | [a], v, _, hw => by
    have : some (0 : Int) = some v := hw
    injection this with this
    show p a - p a ≤ v
    omega
  | a :: b :: t, v, _, hw => by
    obtain ⟨x, y, ex, ey, rfl⟩ := addO_some hw
    have ih := fit_path F (r := b :: t) (by simp) ey
    have h1 := F _ _ _ ex
    have e : (a :: b :: t).getLastD 0 = (b :: t).getLastD 0 := by simp [List.getLastD]
    rw [e]
    show p ((b :: t).getLastD 0) - p a ≤ x + y
    have : (b :: t).headD 0 = b := rfl
    rw [this] at ih
    omega
theorem fit_cyc {hs : List Nat} {d : Dm} {p : Nat → Int} (F : Fit d p) : Cyc hs d := by
  intro r v w ne _ _ hw he
  have h1 := fit_path F ne hw
  have h2 := F _ _ _ he
  omega
theorem fit_wlk {hs : List Nat} {d : Dm} {p : Nat → Int} (F : Fit d p) {i j : Nat} {v : Int} (W : Wlk hs d i j v) : p j - p i ≤ v := by
  induction W with
  | one _ _ e => exact F _ _ _ e
  | two _ _ h1 h2 => omega
end K80

set_option maxHeartbeats 4000000
/-! what the law draws makes a log -/
namespace K80
structure Drawn (hs : List Nat) (ks : List (Nat × Nat)) (rd : Nat × Nat → Int × Option Int) (ls : List Lt) (off : Nat → Int) : Prop where
  srt : hs.Pairwise (· < ·)
  h6 : ∀ h ∈ hs, h < 6
  h2 : 2 ≤ hs.length
  h5 : hs.length ≤ 5
  prs : PrsOk hs ks
  rz : RdSz ks rd
  lt : ∀ l ∈ ls, l.k ∈ ks ∧ LtFit rd off l
  lz : ls.length ≤ 14
section
variable {hs : List Nat} {ks : List (Nat × Nat)} {rd : Nat × Nat → Int × Option Int} {ls : List Lt} {off : Nat → Int}
theorem Drawn.nd (D : Drawn hs ks rd ls off) : hs.Nodup := D.srt.imp fun h => Nat.ne_of_lt h
theorem direct_rows {i j : Nat} {v : Int} (h : direct rd ls i j = some v) : ∃ l ∈ ls, (i = l.one ∧ j = l.other ∧ v = l.heard - l.sent - (rd l.k).1) ∨ ∃ m, (rd l.k).2 = some m ∧ i = l.other ∧ j = l.one ∧ v = m - l.heard + l.sent := by
  rw [direct_eq] at h
  rcases rowsF_sound _ _ h with z | z
  · obtain ⟨l, hl, h2⟩ := List.mem_flatMap.mp z
    unfold dRows at h2
    rcases List.mem_cons.mp h2 with e | e
    · injection e with e1 e2
      injection e1 with e1 e3
      exact ⟨l, hl, .inl ⟨e1, e3, e2⟩⟩
    · cases em : (rd l.k).2 with
      | none => rw [em] at e; cases e
      | some m =>
        rw [em] at e
        simp at e
        obtain ⟨⟨e1, e2⟩, e3⟩ := e
        exact ⟨l, hl, .inr ⟨m, em, e1, e2, e3⟩⟩
  · cases z
theorem direct_fst {l : Lt} (hl : l ∈ ls) : leO (direct rd ls l.one l.other) (l.heard - l.sent - (rd l.k).1) := by
  rw [direct_eq]
  exact rowsF_compl _ _ (List.mem_flatMap.mpr ⟨l, hl, by unfold dRows; exact List.mem_cons_self⟩)
theorem direct_snd {l : Lt} (hl : l ∈ ls) {m : Int} (hm : (rd l.k).2 = some m) : leO (direct rd ls l.other l.one) (m - l.heard + l.sent) := by
  rw [direct_eq]
  refine rowsF_compl _ _ (List.mem_flatMap.mpr ⟨l, hl, ?_⟩)
  unfold dRows
  rw [hm]
  simp
theorem drawn_fit (h : ∀ l ∈ ls, LtFit rd off l) : Fit (direct rd ls) off := by
  intro i j v e
  obtain ⟨l, hl, ⟨rfl, rfl, rfl⟩ | ⟨m, hm, rfl, rfl, rfl⟩⟩ := direct_rows e
  · have := (h l hl).1
    omega
  · have := (h l hl).2.1 m hm
    omega
theorem Drawn.fit (D : Drawn hs ks rd ls off) : Fit (direct rd ls) off := drawn_fit fun l hl => (D.lt l hl).2
theorem Drawn.in2 (D : Drawn hs ks rd ls off) : In2 hs (direct rd ls) := by
  intro i j v e
  obtain ⟨l, hl, h⟩ := direct_rows e
  obtain ⟨h1, h2, _⟩ := D.prs.2.2 _ (D.lt l hl).1
  rcases h with ⟨rfl, rfl, _⟩ | ⟨_, _, rfl, rfl, _⟩
  · exact ⟨h1, h2⟩
  · exact ⟨h2, h1⟩
theorem Drawn.dsz (D : Drawn hs ks rd ls off) : DSz (direct rd ls) 23 := by
  intro i j v e
  have p : (2 : Nat) ^ 23 = 8388608 := by decide
  obtain ⟨l, hl, h⟩ := direct_rows e
  obtain ⟨hk, f1, f2, f3⟩ := D.lt l hl
  obtain ⟨r0, r5, rm⟩ := D.rz _ hk
  rcases h with ⟨rfl, rfl, rfl⟩ | ⟨m, hm, rfl, rfl, rfl⟩
  · omega
  · have := rm m hm
    omega
theorem Drawn.cyc (D : Drawn hs ks rd ls off) : Cyc hs (direct rd ls) := fit_cyc D.fit
theorem Drawn.least (D : Drawn hs ks rd ls off) : LeastOk hs (direct rd ls) (least hs (direct rd ls)) := least_ok D.cyc D.in2
/-- a list has a sorted one beside it -/
theorem pLe_total (p q : Nat × Nat) : pLe p q ∨ pLe q p := by
  unfold pLe
  omega
theorem pLe_trans {p q r : Nat × Nat} (h : pLe p q) (k : pLe q r) : pLe p r := by
  unfold pLe at *
  omega
theorem insert_sorted (a : Nat × Nat) : ∀ l : List (Nat × Nat), l.Pairwise pLe → ∃ m : List (Nat × Nat), m.Perm (a :: l) ∧ m.Pairwise pLe
  | [], _ => ⟨[a], .refl _, by simp⟩
  | b :: l, h => by
    obtain ⟨h1, h2⟩ := List.pairwise_cons.mp h
    rcases pLe_total a b with c | c
    · refine ⟨a :: b :: l, .refl _, List.pairwise_cons.mpr ⟨fun x hx => ?_, h⟩⟩
      rcases List.mem_cons.mp hx with e | e
      · rw [e]; exact c
      · exact pLe_trans c (h1 x e)
    · obtain ⟨m, pm, sm⟩ := insert_sorted a l h2
      refine ⟨b :: m, (pm.cons b).trans (.swap a b l), List.pairwise_cons.mpr ⟨fun x hx => ?_, sm⟩⟩
      rcases List.mem_cons.mp (pm.mem_iff.mp hx) with e | e
      · rw [e]; exact c
      · exact h1 x e
theorem sorted_ex : ∀ l : List (Nat × Nat), ∃ m : List (Nat × Nat), m.Perm l ∧ m.Pairwise pLe
  | [] => ⟨[], .refl _, .nil⟩
  | a :: l => by
    obtain ⟨m, p, s⟩ := sorted_ex l
    obtain ⟨m', p', s'⟩ := insert_sorted a m s
    exact ⟨m', p'.trans (p.cons a), s'⟩
/-- the log's data -/
theorem Drawn.lg (D : Drawn hs ks rd ls off) {ks' : List (Nat × Nat)} (p : ks'.Perm ks) (s : ks'.Pairwise pLe) : (⟨hs, ks', rd, ls⟩ : Wd).Lg where
  nd := D.nd
  h6 := D.h6
  h2 := D.h2
  h5 := D.h5
  prs := ⟨p.nodup_iff.mpr D.prs.1, by rw [p.length_eq]; exact D.prs.2.1, fun k hk => D.prs.2.2 k (p.mem_iff.mp hk)⟩
  bd := fun k hk => let z := D.rz k (p.mem_iff.mp hk); ⟨z.1, fun m hm => (z.2.2 m hm).1⟩
  lt := fun l hl => p.mem_iff.mpr (D.lt l hl).1
  lz := Nat.le_trans D.lz (by decide)
  srt := D.srt
  ksrt := s
  diag := fun h hh v e => by
    have := fit_wlk D.fit (D.least.walk _ _ _ e)
    omega
theorem Drawn.fsz (D : Drawn hs ks rd ls off) (ks' : List (Nat × Nat)) : ∀ i j v, (⟨hs, ks', rd, ls⟩ : Wd).far i j = some v → v.natAbs < 2 ^ 28 := by
  intro i j v e
  have h1 := least_sz D.cyc D.in2 D.dsz i j v e
  have := D.h5
  exact Nat.lt_of_lt_of_le h1 (Nat.pow_le_pow_right (by decide) (by omega))
theorem Drawn.ok (D : Drawn hs ks rd ls off) {ks' : List (Nat × Nat)} (p : ks'.Perm ks) (s : ks'.Pairwise pLe) : WdOk (⟨hs, ks', rd, ls⟩ : Wd) where
  toOk := (D.lg p s).toOk
  fz := fun i j v _ _ e => pw (D.fsz ks' i j v e)
end
end K80

set_option maxHeartbeats 4000000
/-! what the law draws, and the log of it -/
namespace K80
open PySem PySem.Spec L2
open PyProof.Rows hiding St
abbrev s__law_cl_drawn : Stmt := (topS 62)
theorem sc__law_cl_drawn : FnScope ["_law_stream", "_law_least", "_law_hands_here", "_law_roads", "_law_many"] ["_law_stream", "_law_least"] (defScope s__law_cl_drawn) := ⟨rfl, rfl, rfl, by decide +kernel, rfl, by decide +kernel, by decide +kernel⟩
abbrev s__law_cl_log : Stmt := (topS 71)
theorem sc__law_cl_log : FnScope ["_law_stream", "_law_drawn", "_law_hands_here", "_law_roads", "_law_letters", "_law_told", "_law_rows", "_law_pair", "_law_row"] ["_law_stream", "_law_drawn"] (defScope s__law_cl_log) := ⟨rfl, rfl, rfl, by decide +kernel, rfl, by decide +kernel, by decide +kernel⟩
section
variable {P : Program} {w : World} {K : PySem.W.Frag} {mg : Str → Option Value} {base : Heap}
structure DrawnAt (H : Hp) (d l r a : Addr) (hs : List Nat) (ks : List (Nat × Nat)) (rd : Nat × Nat → Int × Option Int) (ls : List Lt) : Prop where
  d : H d = some (.tup [.ref l, .ref r, .ref a])
  l : H l = some (.lst (hs.map hv))
  r : RdKept H r ks rd
  a : LtKept H a ls
theorem DrawnAt.same {H H' : Hp} {d l r a : Addr} {hs : List Nat} {ks : List (Nat × Nat)} {rd : Nat × Nat → Int × Option Int} {ls : List Lt} (s : Same H H') (h : DrawnAt H d l r a hs ks rd ls) : DrawnAt H' d l r a hs ks rd ls := ⟨s _ _ h.d, s _ _ h.l, h.r.same s, h.a.same s⟩
def spLDrawn : Sp := fun vs H Q _ => ∃ (st cl : Addr) (n : Nat), vs = [.ref st, .int 2] ∧ StAt H st cl (n + 300) ∧
  ∀ d l r a H' hs ks rd ls off, Mv st cl H H' → H d = none → DrawnAt H' d l r a hs ks rd ls → (H l = none ∧ H r = none ∧ H a = none) → Drawn hs ks rd ls off → StAt H' st cl n → Q (.ref d) H'
theorem ok_l_drawn (T : Txt K mg) : CallOk P w K mg base CX0 4 "_law_cl_drawn" ["_law_stream", "_law_least"] [] spLDrawn := by
  have C__law_draw : CallOk P w K mg base CX0 1 "_law_draw" ["_law_stream", "_law_many"] [] spDraw := ok_draw T
  have C__law_pick : CallOk P w K mg base CX0 2 "_law_pick" ["_law_stream", "_law_some"] [] spPick := ok_pick T
  have C__law_hands : CallOk P w K mg base CX0 3 "_law_hands" ["_law_stream", "_law_many"] [] spLHands := ok_l_hands T
  have C__law_cl_roads : CallOk P w K mg base CX0 3 "_law_cl_roads" ["_law_stream", "_law_hands_here"] [] spLRoads := ok_l_roads T
  have C__law_cl_offsets : CallOk P w K mg base CX0 3 "_law_cl_offsets" ["_law_stream", "_law_hands_here"] [] spLOff := ok_l_off T
  have C__law_cl_seen : CallOk P w K mg base CX0 3 "_law_cl_seen" ["_law_stream", "_law_roads", "_law_offsets", "_law_many"] [] spLSeen := ok_l_seen T
  refine def_ok (st := s__law_cl_drawn) T 51 45 rfl rfl sc__law_cl_drawn (fun _ _ _ _ _ _ us hl => match us, hl with | [_, _], _ => rfl) (fun vs H Q E h => ?_) (fun cdv f A outer s H vs Q E hr h => ?_)
  · obtain ⟨st, cl, n, rfl, _⟩ := h
    rfl
  · obtain ⟨st, cl, n, rfl, hst, q⟩ := h
    refine ⟨_, PSs.nox (pss_cons (ps_set (i := 2) sc__law_cl_drawn.nd rfl (.inl rfl) (pe_callB (id := "sorted") (cr_sortedSK (K := K) rfl) (by rfl) T.f_sorted (by decide +kernel) (pa_cons (pe_callT C__law_hands (hr.mono (by decide)) (by rfl) pass0 (pa_cons (pv 0) (pa_cons (pe_op op_add (pv 1) (pe_callT C__law_draw (hr.mono (by decide)) (by rfl) pass0 (pa_cons (pv 0) (pa_cons (pe_op op_sub (pe_int) (pv 1)) pa_nil)))) pa_nil))) pa_nil)))
      (pss_cons (ps_set (i := 3) sc__law_cl_drawn.nd rfl (.inl rfl) (pe_callT C__law_cl_roads (hr.mono (by decide)) (by rfl) pass0 (pa_cons (pv 0) (pa_cons (pv 2) pa_nil))))
      (pss_cons (ps_set (i := 4) sc__law_cl_drawn.nd rfl (.inl rfl) (pe_callT C__law_pick (hr.mono (by decide)) (by rfl) pass0 (pa_cons (pv 0) (pa_cons (pe_lst (pa_cons (pe_int) (pa_cons (pe_int) (pa_cons (pe_int) (pa_cons (pe_int) (pa_cons (pe_int) (pa_cons (pe_int) (pa_cons (pe_int) pa_nil)))))))) pa_nil))))
      (pss_one (ps_ret (pe_tup (pa_cons (pv 2) (pa_cons (pv 3) (pa_cons (pe_callT C__law_cl_seen (hr.mono (by decide)) (by rfl) pass0 (pa_cons (pv 0) (pa_cons (pv 3) (pa_cons (pe_callT C__law_cl_offsets (hr.mono (by decide)) (by rfl) pass0 (pa_cons (pv 0) (pa_cons (pv 2) pa_nil))) (pa_cons (pv 4) pa_nil))))) pa_nil))))))))), ?_⟩
    refine ⟨_, rfl, _, rfl, _, rfl, _, rfl, _, _, rfl, rfl, st, cl, 6 - 2, n + 299, rfl, by decide, by decide, hst, fun k H1 k0 k1 mv1 hst1 => ⟨_, _, rfl, rfl, ?_⟩⟩
    obtain ⟨m, em⟩ : ∃ m : Nat, 2 + k = (m : Int) := ⟨(2 + k).toNat, by omega⟩
    refine ⟨st, cl, m, n + 293, by rw [← em]; rfl, by omega, hst1, fun r2 H2 h2 mv2 n2 hr2 nd2 h62 ll2 hst2 => ?_⟩
    refine ⟨r2, h2.map nm, rfl, .of (by rw [← map_hv]; exact hr2), by rw [List.length_map]; omega, fun ys p pe so np => ?_⟩
    obtain ⟨hs, rfl, pl⟩ := perm_nm pe h2 rfl
    have sp := same_new (o := .lst ((hs.map nm).map V.str)) np
    have hl3 : (upd H2 p (.lst ((hs.map nm).map V.str))) p = some (.lst (hs.map hv)) := by rw [map_hv]; exact upd_same
    have hst3 := hst2.same sp
    have pne := hst2.ne np
    have srt := sorted_nm so (pl.nodup_iff.mpr nd2)
    have lhs : hs.length = m := by rw [pl.length_eq]; exact ll2
    have mvA : Mv st cl H (upd H2 p (.lst ((hs.map nm).map V.str))) := (mv1.trans mv2).trans (mv_same sp)
    have npH : H p = none := (mv1.trans mv2).free hst2 np
    generalize upd H2 p (.lst ((hs.map nm).map V.str)) = H3 at sp hl3 hst3 mvA
    have nd : hs.Nodup := pl.nodup_iff.mpr nd2
    refine ⟨_, rfl, _, rfl, st, cl, p, hs, n + 93, rfl, hl3, pne, nd, by omega, hst3, fun r H4 ks rd mv4 n4 hr4 prs rz hst4 => ?_⟩
    have hl4 := mv4 _ _ pne.1 pne.2 hl3
    refine ⟨_, rfl, by show 7 ≤ sizeLine; decide, fun p5 n5 => ?_⟩
    have s5 := same_new (o := .lst ([0, 1, 2, 4, 6, 9, 14].map V.int)) n5
    refine ⟨st, cl, p5, ([0, 1, 2, 4, 6, 9, 14] : List Int).map V.int, n + 92, rfl, upd_same, hst4.ne n5, by decide, by decide, hst4.same s5, fun j x H6 ex mv6 hst6 => ?_⟩
    obtain ⟨z, hz, rfl⟩ := pick_int ex
    obtain ⟨mn, emn, mn14⟩ : ∃ mn : Nat, z = (mn : Int) ∧ mn ≤ 14 := by
      have : ∀ z ∈ ([0, 1, 2, 4, 6, 9, 14] : List Int), 0 ≤ z ∧ z ≤ 14 := by decide
      have := this z hz
      exact ⟨z.toNat, by omega, by omega⟩
    subst emn
    have mv46 := (mv_same (st := st) (cl := cl) s5).trans mv6
    have hl6 := mv46 _ _ pne.1 pne.2 hl4
    have hr6 := hr4.mv hst4 mv46
    refine ⟨_, rfl, _, rfl, _, rfl, _, rfl, _, rfl, _, rfl, st, cl, p, hs, n + 85, rfl, hl6, pne, nd, by omega, hst6, fun o H7 off mv7 n7 ho7 oz hst7 => ?_⟩
    have hr7 := hr6.mv hst6 mv7
    have hl7 := mv7 _ _ pne.1 pne.2 hl6
    refine ⟨_, rfl, st, cl, r, o, mn, ks, rd, hs, off, n + 43, rfl, hr7, prs, rz, ho7, oz, mn14, hst7, fun a H8 ls mv8 n8 ha8 lf lz hst8 => ?_⟩
    have hl8 := mv8 _ _ pne.1 pne.2 hl7
    have hr8 := hr7.mv hst7 mv8
    refine ⟨by show 3 ≤ sizeLine; decide, fun d nd9 => ?_⟩
    have s9 := same_new (o := .tup [.ref p, .ref r, .ref a]) nd9
    have mv38 := ((mv4.trans mv46).trans mv7).trans mv8
    have mvH8 := mvA.trans mv38
    refine q d p r a _ hs ks rd ls off (mvH8.trans (mv_same s9)) (mvH8.free hst8 nd9) ⟨upd_same, s9 _ _ hl8, hr8.same s9, ha8.same s9⟩ ⟨npH, mvA.free hst3 n4, ((mvA.trans mv4).trans (mv46.trans mv7)).free hst7 n8⟩
      ⟨srt, fun h hh => h62 h (pl.mem_iff.mp hh), by omega, by omega, prs, rz, lf, lz⟩ ((hst8.mono (by omega)).same s9)
/-- a letter as it is handed to the log -/
def LtW (A : List Addr) (H : Hp) (v : V) (l : Lt) : Prop := ∃ b, v = .ref b ∧ b ∉ A ∧ LoT H b (Lt.v l)
theorem LtW.mv {A : List Addr} {H H' : Hp} {v : V} {l : Lt} (h : LtW A H v l) (k : ∀ b o, b ∉ A → H b = some o → H' b = some o) : LtW A H' v l :=
  let ⟨b, e, n, z⟩ := h; ⟨b, e, n, z.imp (k _ _ n) (k _ _ n)⟩
theorem LtW.sub {A B : List Addr} {H : Hp} {v : V} {l : Lt} (h : LtW A H v l) (k : ∀ x ∈ B, x ∈ A) : LtW B H v l := let ⟨b, e, n, z⟩ := h; ⟨b, e, fun c => n (k b c), z⟩
def RdW (A : List Addr) (H : Hp) (F : Addr) (ks : List (Nat × Nat)) (rd : Nat × Nat → Int × Option Int) : Prop := ∃ v, H F = some (.dT (dt ks v)) ∧ ∀ k ∈ ks, ∃ b, v k = .ref b ∧ b ∉ A ∧ LoT H b [.int (rd k).1, optI (rd k).2]
theorem RdW.mv {A : List Addr} {H H' : Hp} {F : Addr} {ks : List (Nat × Nat)} {rd : Nat × Nat → Int × Option Int} (h : RdW A H F ks rd) (hF : ∀ o, H F = some o → H' F = some o) (k : ∀ b o, b ∉ A → H b = some o → H' b = some o) : RdW A H' F ks rd :=
  let ⟨v, e, z⟩ := h; ⟨v, hF _ e, fun x hx => let ⟨b, e1, n, e2⟩ := z x hx; ⟨b, e1, n, e2.imp (k _ _ n) (k _ _ n)⟩⟩
theorem RdW.put {A : List Addr} {H : Hp} {F b : Addr} {ks : List (Nat × Nat)} {rd : Nat × Nat → Int × Option Int} {k : Nat × Nat} (r : RdW A H F ks rd) (fA : F ∈ A) (hk : k ∉ ks) (nb : b ∉ A) (hb : LoT H b [.int (rd k).1, optI (rd k).2]) :
    ∃ v, H F = some (.dT (dt ks v)) ∧ RdW A (upd H F (.dT (putK (dt ks v) (pk k.1 k.2) (.ref b)))) F (ks ++ [k]) rd := by
  obtain ⟨v, e, h⟩ := r
  have kp : ∀ b o, b ∉ A → H b = some o → (upd H F (.dT (putK (dt ks v) (pk k.1 k.2) (.ref b)))) b = some o := fun b o n h => by rw [upd_ne fun z => n (by rw [z]; exact fA)]; exact h
  have kp2 : ∀ c o, c ∉ A → H c = some o → (upd H F (.dT (putK (dt ks v) (pk k.1 k.2) (.ref b)))) c = some o := fun c o n h => by rw [upd_ne fun z => n (by rw [z]; exact fA)]; exact h
  refine ⟨v, e, fun x => if x = k then .ref b else v x, by rw [upd_same, put_dt_new _ hk], fun y hy => ?_⟩
  by_cases c : y = k
  · subst c
    exact ⟨b, if_pos rfl, nb, hb.imp (kp2 _ _ nb) (kp2 _ _ nb)⟩
  · have hy' : y ∈ ks := by
      rcases List.mem_append.mp hy with z | z
      · exact z
      · simp at z; exact absurd z c
    obtain ⟨b2, e1, n2, e2⟩ := h y hy'
    exact ⟨b2, (if_neg c).trans e1, n2, e2.imp (kp2 _ _ n2) (kp2 _ _ n2)⟩
def spLLog (K : PySem.W.Frag) : Sp := fun vs H Q _ => ∃ (st cl d l r a : Addr) (hs : List Nat) (ks : List (Nat × Nat)) (rd : Nat × Nat → Int × Option Int) (ls : List Lt) (off : Nat → Int) (n : Nat), vs = [.ref st, .ref d] ∧ DrawnAt H d l r a hs ks rd ls ∧ Drawn hs ks rd ls off ∧ ((l ≠ st ∧ l ≠ cl) ∧ a ≠ st ∧ a ≠ cl) ∧ StAt H st cl (n + 100) ∧
  ∀ x H' ks', Mv st cl H H' → H x = none → ks'.Perm ks → ks'.Pairwise pLe → LogAtN K H' x ⟨hs, ks', rd, ls⟩ (fun b => b ≠ st ∧ b ≠ cl) → StAt H' st cl n → Q (.ref x) H'
theorem ok_l_log (T : Txt K mg) : CallOk P w K mg base CX0 8 "_law_cl_log" ["_law_stream", "_law_drawn"] [] (spLLog K) := by
  have C__law_mixed : CallOk P w K mg base CX0 2 "_law_mixed" ["_law_stream", "_law_some"] [] (spMixed K) := ok_mixed T
  have C__law_pick : CallOk P w K mg base CX0 2 "_law_pick" ["_law_stream", "_law_some"] [] spPick := ok_pick T
  obtain ⟨fdL, FL⟩ := log_init (P := P) (w := w) (base := base) T
  refine def_ok (st := s__law_cl_log) T 60 54 rfl rfl sc__law_cl_log (fun _ _ _ _ _ _ us hl => match us, hl with | [_, _], _ => rfl) (fun vs H Q E h => ?_) (fun cdv f A outer s H vs Q E hr h => ?_)
  · obtain ⟨st, cl, d, l, r, a, hs, ks, rd, ls, off, n, rfl, _⟩ := h
    rfl
  · obtain ⟨st, cl, d, l, r, a, hs, ks, rd, ls, off, n, rfl, ⟨hd, hl, hr1, ha⟩, DR, ⟨⟨l1, l2⟩, a1, a2⟩, hst, q⟩ := h
    refine ⟨_, PSs.nox (pss_cons (ps_asg (pv 1) (pg_tupK (K := K) rfl rfl (pgs_cons (pg_name (i := 2) sc__law_cl_log.nd rfl (.inl rfl)) (pgs_cons (pg_name (i := 3) sc__law_cl_log.nd rfl (.inl rfl)) (pgs_cons (pg_name (i := 4) sc__law_cl_log.nd rfl (.inl rfl)) pgs_nil)))))
      (pss_cons (ps_par (i := 5) (j := 6) (by rfl) sc__law_cl_log.nd rfl rfl (by decide) rfl rfl (pa_cons (pe_dnewT) (pa_cons (pe_lc (own := [("_law_row", 8)]) (by rfl) sc__law_cl_log.nd (pi_listK (K := K) rfl (pv 4)) (blkOk_by (own := [("_law_row", 8)]) (N := ["_law_stream", "_law_drawn", "_law_hands_here", "_law_roads", "_law_letters", "_law_told", "_law_rows", "_law_pair", "_law_row"]) (sc := defScope (topS 71)) (by decide +kernel)) (fun _ _ _ _ _ => (pg_name (i := 8) sc__law_cl_log.nd rfl (.inl rfl))) (fun _ _ _ _ _ => pts_nil) (fun _ _ _ _ _ => (pe_callT C__law_pick (hr.mono (by decide)) (by rfl) pass0 (pa_cons (pv 0) (pa_cons (pe_lst (pa_cons (pv 8) (pa_cons (pe_callTy (T := "list") (call_lstK (K := K) rfl) (by rfl) T.f_list (by decide +kernel) (pa_cons (pv 8) pa_nil)) pa_nil))) pa_nil))))) pa_nil)) (by rfl))
      (pss_cons (ps_for PassesOwn.never rfl (pi_listK (K := K) rfl (pe_callT C__law_mixed (hr.mono (by decide)) (by rfl) pass0 (pa_cons (pv 0) (pa_cons (pe_callTy (T := "list") (call_list_dT rfl) (by rfl) T.f_list (by decide +kernel) (pa_cons (pv 3) pa_nil)) pa_nil)))) (pg_name (i := 7) sc__law_cl_log.nd rfl (.inl rfl))
      (pss_one (ps_dput (hu_of hr) (pv 5) (pv 7) (pe_callT C__law_pick (hr.mono (by decide)) (by rfl) pass0 (pa_cons (pv 0) (pa_cons (pe_lst (pa_cons (pe_dget (hu_of hr) (pv 3) (pv 7) (fun _ _ => rfl)) (pa_cons (pe_callTy (T := "list") (call_lstK (K := K) rfl) (by rfl) T.f_list (by decide +kernel) (pa_cons (pe_dget (hu_of hr) (pv 3) (pv 7) (fun _ _ => rfl)) pa_nil)) pa_nil))) pa_nil))) rfl)))
      (pss_one (ps_ret (pe_make (logMk T) FL.1 (hr.mono (by decide)) (by rfl) (logG T) FL.2 .nil pass0 (pa_cons (pe_callT C__law_mixed (hr.mono (by decide)) (by rfl) pass0 (pa_cons (pv 0) (pa_cons (pv 2) pa_nil))) (pa_cons (pv 5) (pa_cons (pv 6) pa_nil))))))))), ?_⟩
    refine ⟨_, rfl, d, [.ref l, .ref r, .ref a], rfl, .of hd, rfl, _, _, rfl, _, _, rfl, _, _, rfl, rfl, ?_⟩
    intro F nF
    have sF := same_new (o := .dT []) nF
    have hF : (upd H F (.dT [])) F = some (.dT []) := upd_same
    have hl1 := sF _ _ hl
    have hr2 := hr1.same sF
    have ha1 := ha.same sF
    have hst1 := hst.same sF
    have mv1 := mv_same (st := st) (cl := cl) sF
    generalize upd H F (.dT []) = H1 at hF hl1 hr2 ha1 hst1 mv1 sF
    obtain ⟨xa, hxa, hPa⟩ := ha1
    have nd := DR.nd
    have lks : ks.length ≤ 25 := by
      have h1 := nodup_le (m := pairs hs) DR.prs.1 fun k hk => mem_pairs.mpr (DR.prs.2.2 k hk)
      have h2 := pairs_len hs
      have h3 : hs.length * hs.length ≤ 5 * 5 := Nat.mul_le_mul DR.h5 DR.h5
      omega
    obtain ⟨F1, F2⟩ := hst1.nst hF fun _ z => by cases z
    refine ⟨_, rfl, a, rfl, ⟨_, .of hxa⟩, fun D nD => ?_⟩
    obtain ⟨D1, D2⟩ := hst1.ne nD
    have DF : D ≠ F := fun z => by rw [z, hF] at nD; cases nD
    have sD := same_new (o := .lst []) nD
    have aD : a ≠ D := ne_of_none hxa nD
    have lDne : l ≠ D := ne_of_none hl1 nD
    refine lc_list (xs := xa) (fun i H' => (∀ b o, b ≠ D → b ≠ st → b ≠ cl → H1 b = some o → H' b = some o) ∧ StAt H' st cl (n + 86 + (14 - i)) ∧ ∃ ys, H' D = some (.lst ys) ∧ ys.length = i ∧ Paired (LtW [st, cl, D, F] H') ys (ls.take i)) ?_ ?_ ?_ ?_
    · exact ⟨fun b o n1 _ _ e => by rw [upd_ne n1]; exact e, (hst1.same sD).mono (by omega), [], upd_same, rfl, .nil⟩
    · intro i H' _ ⟨mv, _⟩
      exact .of (mv _ _ aD a1 a2 hxa)
    · rintro i x H2 hx ⟨mv, hst2, ys, hD, ly, pD⟩
      obtain ⟨lt, hlt, b, rfl, hb⟩ := pr_getL hPa hx
      have hi : i < ls.length := (List.getElem?_eq_some_iff.mp hlt).1
      have lz := DR.lz
      have en : n + 86 + (14 - i) = n + 86 + (14 - (i + 1)) + 1 := by omega
      rw [en] at hst2
      have bD : b ≠ D := ne_of_none hb nD
      have bn := hst1.nst hb fun _ z => by cases z
      have bF : b ≠ F := ne_of hb hF fun z => by cases z
      have hb2 := mv _ _ bD bn.1 bn.2 hb
      have hF2 := mv _ _ DF.symm F1 F2 hF
      refine ⟨rfl, _, rfl, _, rfl, _, rfl, b, _, rfl, .inr (.of hb2), fun L nL => ?_⟩
      have sL := same_new (o := .lst (Lt.v lt)) nL
      have hL : (upd H2 L (.lst (Lt.v lt))) L = some (.lst (Lt.v lt)) := upd_same
      have Ln := hst2.ne nL
      have LD : L ≠ D := fun z => by rw [z, hD] at nL; cases nL
      have LF : L ≠ F := fun z => by rw [z, hF2] at nL; cases nL
      have hst3 := hst2.same sL
      refine ⟨by show 2 ≤ sizeLine; decide, fun p np => ?_⟩
      have sp := same_new (o := .lst [.ref b, .ref L]) np
      have hst4 := hst3.same sp
      have pn := hst3.ne np
      have s24 := sL.trans sp
      have hL4 := sp _ _ hL
      refine ⟨st, cl, p, [.ref b, .ref L], _, rfl, upd_same, pn, by show 0 < 2; decide, by show 2 ≤ 1000; decide, hst4, fun j x H5 ex mv5 hst5 => ?_⟩
      have mv25 : ∀ c o, c ∉ [st, cl, D, F] → H2 c = some o → H5 c = some o := fun c o nc e => by
        simp only [List.mem_cons, List.not_mem_nil, or_false, not_or] at nc
        exact mv5 _ _ nc.1 nc.2.1 (s24 _ _ e)
      have key : LtW [st, cl, D, F] H5 x lt := by
        have hj : j < 2 := (List.getElem?_eq_some_iff.mp ex).1
        have : j = 0 ∨ j = 1 := by omega
        rcases this with rfl | rfl
        · refine ⟨b, (Option.some.inj ex).symm, by simp [bn.1, bn.2, bD, bF], .inr ?_⟩
          exact mv5 _ _ bn.1 bn.2 (s24 _ _ hb2)
        · exact ⟨L, (Option.some.inj ex).symm, by simp [Ln.1, Ln.2, LD, LF], .inl (mv5 _ _ Ln.1 Ln.2 hL4)⟩
      have hD5 := mv5 _ _ D1 D2 (s24 _ _ hD)
      have updk : ∀ c o, c ∉ [st, cl, D, F] → H5 c = some o → (upd H5 D (.lst (ys ++ [x]))) c = some o := fun c o nc e => by
        simp only [List.mem_cons, List.not_mem_nil, or_false, not_or] at nc
        rw [upd_ne nc.2.2.1]
        exact e
      refine ⟨ys, hD5, small1000 (by omega), fun c o n1 n2 n3 e => by rw [upd_ne n1]; exact mv5 _ _ n2 n3 (s24 _ _ (mv _ _ n1 n2 n3 e)), ?_, ys ++ [x], upd_same, by simp; omega, ?_⟩
      · obtain ⟨ns, a', c, m', e1, e2, rr⟩ := hst5
        exact ⟨ns, a', c, m', by rw [upd_ne D1.symm]; exact e1, by rw [upd_ne D2.symm]; exact e2, rr⟩
      · rw [take_succ' hlt]
        exact pr_app (pr_mono pD fun v y h => (h.mv mv25).mv updk) (.cons (key.mv updk) .nil)
    · rintro H2 ⟨mv, hst2, ys, hD, ly, pD⟩
      rw [hPa.length, List.take_length] at pD
      have hF2 := mv _ _ DF.symm F1 F2 hF
      have mvH2 : Mv st cl H H2 := fun b o n1 n2 e => mv _ _ (ne_of_none (mv1 _ _ n1 n2 e) nD) n1 n2 (mv1 _ _ n1 n2 e)
      have hr3 := hr1.mv hst mvH2
      have hl3 := mvH2 _ _ l1 l2 hl
      obtain ⟨v, hrv, _⟩ := id hr3
      refine ⟨_, _, rfl, ?_⟩
      refine ⟨_, rfl, _, rfl, r, dt ks v, rfl, .of hrv, fun a3 bs na hk => ?_⟩
      have sA := same_new (o := .lst (bs.map V.ref)) na
      have hPk : Paired (IsPr (upd H2 a3 (.lst (bs.map V.ref)))) (bs.map V.ref) ks := by
        have : ∀ {bs : List Addr} {ks : List (Nat × Nat)} {G : Hp}, Paired (fun b k => PrT G b k.1 k.2) bs ks → Paired (IsPr G) (bs.map V.ref) ks := fun h => by
          induction h with
          | nil => exact .nil
          | cons h _ ih => exact .cons ⟨_, rfl, h⟩ ih
        exact this (pr_mono (pr_keys hk) fun b k h => sA _ _ h)
      have lbs : (bs.map V.ref).length = ks.length := hPk.length
      have hst3 := hst2.same sA
      refine ⟨st, cl, a3, bs.map V.ref, n + 61, rfl, .inl (.of upd_same), by omega, hst3.mono (by omega), fun m4 H4 ms mv4 n4 hm4 pm hst4 => ?_⟩
      obtain ⟨kk, hPm, pk'⟩ := pr_perm pm hPk
      have hPm4 : Paired (IsPr H4) ms kk := pr_mono hPm fun x k ⟨q, e, h⟩ => ⟨q, e, mv4.keep hst3 h fun _ z => by cases z⟩
      have mv24 := (mv_same (st := st) (cl := cl) sA).trans mv4
      have ndk : kk.Nodup := pk'.nodup_iff.mpr DR.prs.1
      have hF4 := mv24.keep hst2 hF2 fun _ z => by cases z
      have hr4 := hr3.mv hst2 mv24
      have hl4 := mv24 _ _ l1 l2 hl3
      have hD4 := mv24 _ _ D1 D2 hD
      have pD4 : Paired (LtW [st, cl, D, F] H4) ys ls := pr_mono pD fun x y h => h.mv fun b o nb e => by
        simp only [List.mem_cons, List.not_mem_nil, or_false, not_or] at nb
        exact mv24 _ _ nb.1 nb.2.1 e
      obtain ⟨m41, m42⟩ := hst3.ne n4
      have lms : ms.length = ks.length := by rw [pm.length_eq]; exact lbs
      have mF : m4 ≠ F := fun z => by
        have e := sA _ _ hF2
        rw [← z, n4] at e
        cases e
      have mvH4 : Mv st cl H H4 := mvH2.trans mv24
      clear hPm pm hPk hk hst3
      refine ⟨m4, rfl, ⟨_, .of hm4⟩, ?_⟩
      refine for_list (xs := ms) (fun i σ H' => (∃ x7, σ = [some (.ref st), some (.ref d), some (.ref l), some (.ref r), some (.ref a), some (.ref F), some (.ref D), x7, none]) ∧ (∀ b o, b ≠ F → b ≠ st → b ≠ cl → H4 b = some o → H' b = some o) ∧ StAt H' st cl (n + 36 + (25 - i)) ∧ RdW [st, cl, F] H' F (kk.take i) rd)
        ⟨⟨_, rfl⟩, fun _ _ _ _ _ e => e, hst4.mono (by omega), fun _ => .non, hF4, fun k hk => by simp at hk⟩ ?_ ?_ ?_
      · intro i σ H' _ ⟨_, mv, _⟩
        exact .of (mv _ _ mF m41 m42 hm4)
      · rintro i x σ H5 hx ⟨⟨x7, rfl⟩, mv, hst5, hW⟩
        obtain ⟨k, hk, q4, rfl, hq4⟩ := pr_getL hPm4 hx
        have hi : i < ms.length := (List.getElem?_eq_some_iff.mp hx).1
        have en : n + 36 + (25 - i) = n + 36 + (25 - (i + 1)) + 1 := by omega
        rw [en] at hst5
        have kks : k ∈ ks := pk'.mem_iff.mp (mem_of i hk)
        have kp : ∀ {b o}, H4 b = some o → (∀ xs, o ≠ .lst xs) → (b ≠ F) → H5 b = some o := fun e k nF => mv _ _ nF (hst4.nst e k).1 (hst4.nst e k).2 e
        have hq5 := kp hq4 (fun _ z => by cases z) (ne_of hq4 hF4 fun z => by cases z)
        have rF : r ≠ F := by
          obtain ⟨v, e, _⟩ := hr1
          exact ne_of_none e nF
        have hr5 : RdKept H5 r ks rd := let ⟨v, e, k⟩ := hr4; ⟨v, kp e (fun _ z => by cases z) rF, fun x hx => let ⟨b, e1, e2⟩ := k x hx; ⟨b, e1, kp e2 (fun _ z => by cases z) (ne_of e2 hF4 fun z => by cases z)⟩⟩
        obtain ⟨c, g, hc⟩ := hr5.get hq5 kks
        have hF5 : ∃ vv, H5 F = some (.dT vv) := let ⟨v, e, _⟩ := hW; ⟨_, e⟩
        obtain ⟨vF, hF5⟩ := hF5
        have cn := hst5.nst hc fun _ z => by cases z
        have cF : c ≠ F := ne_of hc hF5 fun z => by cases z
        refine ⟨_, rfl, _, rfl, _, rfl, r, .ref c, rfl, g, _, rfl, _, rfl, r, .ref c, rfl, g, c, _, rfl, .inr (.of hc), fun L nL => ?_⟩
        have sL := same_new (o := .lst [.int (rd k).1, optI (rd k).2]) nL
        have hL : (upd H5 L (.lst [.int (rd k).1, optI (rd k).2])) L = some (.lst [.int (rd k).1, optI (rd k).2]) := upd_same
        have Ln := hst5.ne nL
        have LF : L ≠ F := fun z => by rw [z, hF5] at nL; cases nL
        have hst6 := hst5.same sL
        refine ⟨by show 2 ≤ sizeLine; decide, fun p np => ?_⟩
        have sp := same_new (o := .lst [.ref c, .ref L]) np
        have hst7 := hst6.same sp
        have pn := hst6.ne np
        have s57 := sL.trans sp
        have hL7 := sp _ _ hL
        refine ⟨st, cl, p, [.ref c, .ref L], _, rfl, upd_same, pn, by show 0 < 2; decide, by show 2 ≤ 1000; decide, hst7, fun j x H8 ex mv8 hst8 => ?_⟩
        have mv58 : ∀ b o, b ∉ [st, cl, F] → H5 b = some o → H8 b = some o := fun b o nb e => by
          simp only [List.mem_cons, List.not_mem_nil, or_false, not_or] at nb
          exact mv8 _ _ nb.1 nb.2.1 (s57 _ _ e)
        have key : ∃ b, x = .ref b ∧ b ∉ [st, cl, F] ∧ LoT H8 b [.int (rd k).1, optI (rd k).2] := by
          have hj : j < 2 := (List.getElem?_eq_some_iff.mp ex).1
          have : j = 0 ∨ j = 1 := by omega
          rcases this with rfl | rfl
          · exact ⟨c, (Option.some.inj ex).symm, by simp [cn.1, cn.2, cF], .inr (mv8 _ _ cn.1 cn.2 (s57 _ _ hc))⟩
          · exact ⟨L, (Option.some.inj ex).symm, by simp [Ln.1, Ln.2, LF], .inl (mv8 _ _ Ln.1 Ln.2 hL7)⟩
        obtain ⟨b, rfl, nb, hb⟩ := key
        have hF8 : ∀ o, H5 F = some o → H8 F = some o := fun o e => mv8 _ _ F1 F2 (s57 _ _ e)
        have hW8 := hW.mv hF8 mv58
        have hnew : k ∉ kk.take i := fun c => by
          obtain ⟨j, hj⟩ := List.mem_iff_getElem?.mp c
          rw [List.getElem?_take] at hj
          split at hj
          · rename_i ji
            have := (List.getElem?_inj (List.getElem?_eq_some_iff.mp hk).1 ndk).mp (hk.trans hj.symm)
            omega
          · cases hj
        have hq8 := mv8 _ _ (hst5.nst hq5 fun _ z => by cases z).1 (hst5.nst hq5 fun _ z => by cases z).2 (s57 _ _ hq5)
        obtain ⟨v9, hF9, hW9⟩ := hW8.put (by simp) hnew nb hb
        refine ⟨_, rfl, _, rfl, F, _, rfl, .inr ⟨_, pk k.1 k.2, q4, hF9, rfl, hq8, ?_, rfl⟩, ⟨_, rfl⟩, fun b o n1 n2 n3 e => ?_, ?_, ?_⟩
        · rw [List.length_map, List.length_take]
          exact small1000 (by omega)
        · rw [upd_ne n1]
          exact mv8 _ _ n2 n3 (s57 _ _ (mv _ _ n1 n2 n3 e))
        · obtain ⟨ns, a', c', m', e1, e2, rr⟩ := hst8
          exact ⟨ns, a', c', m', by rw [upd_ne F1.symm]; exact e1, by rw [upd_ne F2.symm]; exact e2, rr⟩
        · rw [take_succ' hk]
          exact hW9
      · rintro σ H5 ⟨⟨x7, rfl⟩, mv, hst5, hW⟩
        rw [hPm4.length, List.take_length] at hW
        have hl5 := mv _ _ (ne_of_none hl nF) l1 l2 hl4
        have hD5 := mv _ _ DF D1 D2 hD4
        have pD5 : Paired (LtW [st, cl, D, F] H5) ys ls := pr_mono pD4 fun x y h => h.mv fun b o nb e => by
          simp only [List.mem_cons, List.not_mem_nil, or_false, not_or] at nb
          exact mv _ _ nb.2.2.2 nb.1 nb.2.1 e
        have mvH5 : Mv st cl H H5 := fun b o n1 n2 e => mv _ _ (ne_of_none e nF) n1 n2 (mvH4 _ _ n1 n2 e)
        have h5 := DR.h5
        refine ⟨_, rfl, _, rfl, st, cl, l, hs.map hv, n, rfl, .inl (.of hl5), by rw [List.length_map]; omega, hst5.mono (by rw [List.length_map]; omega), fun q6 H6 ys6 mv6 n6 hq6 pm6 hst6 => ?_⟩
        obtain ⟨hs0, rfl, ph0⟩ := perm_map_inv hv pm6 hs rfl
        have hD6 := mv6 _ _ D1 D2 hD5
        have pD6 : Paired (LtW [st, cl, D, F] H6) ys ls := pr_mono pD5 fun x y h => h.mv fun b o nb e => by
          simp only [List.mem_cons, List.not_mem_nil, or_false, not_or] at nb
          exact mv6 _ _ nb.1 nb.2.1 e
        have hW6 := hW.mv (fun o e => mv6 _ _ F1 F2 e) fun b o nb e => by
          simp only [List.mem_cons, List.not_mem_nil, or_false, not_or] at nb
          exact mv6 _ _ nb.1 nb.2.1 e
        refine ⟨_, rfl, _, rfl, fun x dx nx ndx ne => ?_⟩
        obtain ⟨ks', pk2, srt2⟩ := sorted_ex ks
        have nx1 : H6 x = none := nx
        have s67 : Same H6 (upd (upd H6 dx (.own x)) x (.ins (aLog K) dx [])) := (same_new ndx).trans (same_new (by rw [upd_ne ne.symm]; exact nx))
        have mvH6 : Mv st cl H H6 := mvH5.trans mv6
        refine ⟨x, dx, q6, F, D, ⟨hs, ks', rd, ls⟩, hs0, kk, rfl, upd_same, DR.lg pk2 srt2, ph0, pk'.trans pk2.symm, s67 _ _ hq6, ?_, ⟨ys, s67 _ _ hD6, pr_mono pD6 fun v y ⟨b, e, _, h⟩ => ⟨b, e, LoT.same s67 h⟩⟩, fun H7 sb la => ⟨rfl, ?_⟩⟩
        · obtain ⟨v, e, h⟩ := hW6
          exact ⟨v, s67 _ _ e, fun k hk => let ⟨b, e1, _, e2⟩ := h k hk; ⟨b, e1, LoT.same s67 e2⟩⟩
        · have s67' : Same H6 H7 := fun b o e => sb _ _ (ne_of_none e nx1) (s67 _ _ e)
          exact q x H7 ks' (mvH6.trans (mv_same s67')) (mvH6.free hst6 nx1) pk2 srt2 (la.imp fun b hb => (hst6.same s67).ne hb) (hst6.same s67')
end
end K80

set_option maxHeartbeats 4000000
/-! the law's sameness of things -/
namespace K80
open PySem PySem.Spec L2 RZ LiI
open PyProof.Rows hiding St
abbrev s__law_same : Stmt := (topS 53)
theorem sc__law_same : FnScope ["_law_found", "_law_due", "_law_x", "_law_y"] ["_law_found", "_law_due"] (defScope s__law_same) := ⟨rfl, rfl, rfl, by decide +kernel, rfl, by decide +kernel, by decide +kernel⟩
section
variable {P : Program} {w : World} {K : PySem.W.Frag} {mg : Str → Option Value} {base : Heap}
abbrev RelH := Hp → V → V → Prop
def Leafy (x : V) : Prop := x = .non ∨ (∃ i, x = .int i) ∨ (∃ b, x = .bl b) ∨ ∃ s, x = .str s
def UpSm (R : RelH) : RelH := fun H x y =>
  (x = y ∧ Leafy x) ∨
  (∃ a b xs ys, x = .ref a ∧ y = .ref b ∧ xs.length ≤ 1000 ∧ ((H a = some (.lst xs) ∧ H b = some (.lst ys)) ∨ (H a = some (.tup xs) ∧ H b = some (.tup ys))) ∧ Paired (R H) xs ys) ∨
  ∃ a l, x = .ref a ∧ y = .ref a ∧ H a = some (.dK (dh l fun _ => .int 1)) ∧ ∀ H' p q ts us, Same H H' → H' p = some (.lst (ts.map V.ref)) → H' q = some (.lst (us.map V.ref)) → Paired (fun t h => H' t = some (.tup [hv h, .int 1])) ts l → Paired (fun t h => H' t = some (.tup [hv h, .int 1])) us l → R H' (.ref p) (.ref q)
def MonoR (R : RelH) : Prop := ∀ H H' x y, Same H H' → R H x y → R H' x y
theorem up_mono {R : RelH} (m : MonoR R) : MonoR (UpSm R) := by
  intro H H' x y s h
  rcases h with h | ⟨a, b, xs, ys, e1, e2, z, h, k⟩ | ⟨a, l, e1, e2, h, k⟩
  · exact .inl h
  · refine .inr (.inl ⟨a, b, xs, ys, e1, e2, z, ?_, pr_mono k fun x y h => m _ _ _ _ s h⟩)
    rcases h with ⟨h1, h2⟩ | ⟨h1, h2⟩
    · exact .inl ⟨s _ _ h1, s _ _ h2⟩
    · exact .inr ⟨s _ _ h1, s _ _ h2⟩
  · exact .inr (.inr ⟨a, l, e1, e2, s _ _ h, fun H2 p q ts us s2 => k H2 p q ts us (s.trans s2)⟩)
def Sm : Nat → RelH
  | 0 => fun _ _ _ => False
  | n + 1 => UpSm (Sm n)
theorem sm_mono : ∀ n, MonoR (Sm n)
  | 0 => fun _ _ _ _ _ h => h
  | n + 1 => up_mono (sm_mono n)
def spSm (R : RelH) : Sp := fun vs H Q _ => ∃ x y, vs = [x, y] ∧ R H x y ∧ ∀ H', Same H H' → Q (.bl true) H'
/-- a walk over two lists, or two tuples, abreast -/
theorem wk_itz {H1 : Hp} {a b : Addr} {xs ys : List V} (ha : SqL K H1 a xs) (hb : SqL K H1 b ys) (hl : xs.length = ys.length) : Wk (Itz K a b) H1 (xs.zip ys) (fun H v u => ∃ T, v = .ref T ∧ H T = some (.tup [u.1, u.2])) := by
  refine ⟨fun i u H hu s => ?_, fun H s => ⟨xs, ys, s.seq ha, s.seq hb, .inl (by rw [List.length_zip]; omega)⟩⟩
  rw [List.getElem?_zip_eq_some] at hu
  refine ⟨⟨xs, ys, u.1, u.2, s.seq ha, s.seq hb, hu.1, hu.2⟩, fun y H' ⟨T, x1, y1, e, nT, eH, h1, h2⟩ => ?_⟩
  have e1 := h1 xs (s.seq ha)
  have e2 := h2 ys (s.seq hb)
  rw [hu.1] at e1
  rw [hu.2] at e2
  cases e1
  cases e2
  subst eH
  exact ⟨same_new nT, T, e, upd_same⟩
theorem wk_itzT {H1 : Hp} {a b : Addr} {xs ys : List V} (ha : SqT K H1 a xs) (hb : SqT K H1 b ys) (hl : xs.length = ys.length) : Wk (ItzT K a b) H1 (xs.zip ys) (fun H v u => ∃ T, v = .ref T ∧ H T = some (.tup [u.1, u.2])) := by
  refine ⟨fun i u H hu s => ?_, fun H s => ⟨xs, ys, same_t s ha, same_t s hb, .inl (by rw [List.length_zip]; omega)⟩⟩
  rw [List.getElem?_zip_eq_some] at hu
  refine ⟨⟨xs, ys, u.1, u.2, same_t s ha, same_t s hb, hu.1, hu.2⟩, fun y H' ⟨T, x1, y1, e, nT, eH, h1, h2⟩ => ?_⟩
  have e1 := h1 xs (same_t s ha)
  have e2 := h2 ys (same_t s hb)
  rw [hu.1] at e1
  rw [hu.2] at e2
  cases e1
  cases e2
  subst eH
  exact ⟨same_new nT, T, e, upd_same⟩
theorem pr_zip {α β : Type} {F : α → β → Prop} {xs : List α} {ys : List β} (h : Paired F xs ys) : ∀ u ∈ xs.zip ys, F u.1 u.2 := by
  induction h with
  | nil => intro u hu; simp at hu
  | cons h _ ih =>
    intro u hu
    rcases List.mem_cons.mp hu with e | e
    · rw [e]; exact h
    · exact ih u e
theorem ok_same_step (T : Txt K mg) {k : Nat} {R : RelH} (m : MonoR R) (C__law_same : CallOk P w K mg base CX0 k "_law_same" ["_law_found", "_law_due"] [] (spSm R)) : CallOk P w K mg base CX0 (k + 1) "_law_same" ["_law_found", "_law_due"] [] (spSm (UpSm R)) := by
  refine def_ok (st := s__law_same) T 42 36 rfl rfl sc__law_same (fun _ _ _ _ _ _ us hl => match us, hl with | [_, _], _ => rfl) (fun vs H Q E h => ?_) (fun cdv f A outer s H vs Q E hr h => ?_)
  · obtain ⟨x, y, rfl, _⟩ := h
    rfl
  · refine ⟨_, PSs.nox (pss_cons (ps_if (pt_val (pe_callB (id := "isinstance") (call_isiTK (K := K) rfl) (by rfl) T.f_isinstance (by decide +kernel) (pa_cons (pv 1) (pa_cons (pe_tup (pa_cons (pe_bltn (v := .ty "list") (by rfl) T.f_list (by decide +kernel) rfl) (pa_cons (pe_bltn (v := .ty "tuple") (by rfl) T.f_tuple (by decide +kernel) rfl) pa_nil))) pa_nil)))) (pss_cons (ps_if (PW.pt (pw_or (pt_cmpR op_ne (pe_callB (id := "isinstance") (call_isiK1 (K := K) rfl) (by rfl) T.f_isinstance (by decide +kernel) (pa_cons (pv 0) (pa_cons (pe_bltn (v := .ty "list") (by rfl) T.f_list (by decide +kernel) rfl) pa_nil))) (pe_callB (id := "isinstance") (call_isiK1 (K := K) rfl) (by rfl) T.f_isinstance (by decide +kernel) (pa_cons (pv 1) (pa_cons (pe_bltn (v := .ty "list") (by rfl) T.f_list (by decide +kernel) rfl) pa_nil))) (nomark _)) (pw_or1 (pt_cmpR op_ne (pe_callB (id := "isinstance") (call_isiK1 (K := K) rfl) (by rfl) T.f_isinstance (by decide +kernel) (pa_cons (pv 0) (pa_cons (pe_bltn (v := .ty "tuple") (by rfl) T.f_tuple (by decide +kernel) rfl) pa_nil))) (pe_callB (id := "isinstance") (call_isiK1 (K := K) rfl) (by rfl) T.f_isinstance (by decide +kernel) (pa_cons (pv 1) (pa_cons (pe_bltn (v := .ty "tuple") (by rfl) T.f_tuple (by decide +kernel) rfl) pa_nil))) (nomark _))))) (pss_one (ps_ret (pe_bl))) pss_nil)
      (pss_one (ps_ret (pe_and (pe_cmpR op_eq (pe_callB (id := "len") (call_lenK (K := K) rfl) (by rfl) T.f_len (by decide +kernel) (pa_cons (pv 0) pa_nil)) (pe_callB (id := "len") (call_lenK (K := K) rfl) (by rfl) T.f_len (by decide +kernel) (pa_cons (pv 1) pa_nil)) (nomark _)) (pe_one (pe_callB (id := "all") (cr_allK (K := K) rfl rfl) (by rfl) T.f_all (by decide +kernel) (pa_cons (pe_lc (own := [("_law_x", 2), ("_law_y", 3)]) (by rfl) sc__law_same.nd (pi_zipA (by rfl) T.f_zip (pa_cons (pv 0) (pa_cons (pv 1) pa_nil))) (blkOk_by (own := [("_law_x", 2), ("_law_y", 3)]) (N := ["_law_found", "_law_due", "_law_x", "_law_y"]) (sc := defScope (topS 53)) (by decide +kernel)) (fun _ _ _ _ _ => (pg_tupK (K := K) (n := 2) rfl rfl (pgs_cons (pg_name (i := 2) sc__law_same.nd rfl (.inl rfl)) (pgs_cons (pg_name (i := 3) sc__law_same.nd rfl (.inl rfl)) pgs_nil)))) (fun _ _ _ _ _ => pts_nil) (fun _ _ _ _ _ => (pe_callT C__law_same (hr.mono (Nat.le_refl _)) (by rfl) pass0 (pa_cons (pv 2) (pa_cons (pv 3) pa_nil))))) pa_nil))))))) pss_nil)
      (pss_cons (ps_if (pt_val (pe_callB (id := "isinstance") (call_isiK1 (K := K) rfl) (by rfl) T.f_isinstance (by decide +kernel) (pa_cons (pv 1) (pa_cons (pe_bltn (v := .ty "dict") (by rfl) T.f_dict (by decide +kernel) rfl) pa_nil)))) (pss_one (ps_ret (pe_and (pe_callB (id := "isinstance") (call_isiK1 (K := K) rfl) (by rfl) T.f_isinstance (by decide +kernel) (pa_cons (pv 0) (pa_cons (pe_bltn (v := .ty "dict") (by rfl) T.f_dict (by decide +kernel) rfl) pa_nil))) (pe_one (pe_callT C__law_same (hr.mono (Nat.le_refl _)) (by rfl) pass0 (pa_cons (pe_listItems rfl (pv 0) (by rfl) T.f_list (by decide +kernel)) (pa_cons (pe_listItems rfl (pv 1) (by rfl) T.f_list (by decide +kernel)) pa_nil))))))) pss_nil)
      (pss_cons (ps_if (pt_val (pe_callB (id := "isinstance") (call_isiK1 (K := K) rfl) (by rfl) T.f_isinstance (by decide +kernel) (pa_cons (pv 1) (pa_cons (pe_bltn (v := .ty "int") (by rfl) T.f_int (by decide +kernel) rfl) pa_nil)))) (pss_one (ps_ret (pe_and (pe_callB (id := "isinstance") (call_isiK1 (K := K) rfl) (by rfl) T.f_isinstance (by decide +kernel) (pa_cons (pv 0) (pa_cons (pe_bltn (v := .ty "int") (by rfl) T.f_int (by decide +kernel) rfl) pa_nil))) (pe_and (pe_cmpR op_eq (pe_callB (id := "isinstance") (call_isiK1 (K := K) rfl) (by rfl) T.f_isinstance (by decide +kernel) (pa_cons (pv 0) (pa_cons (pe_bltn (v := .ty "bool") (by rfl) T.f_bool (by decide +kernel) rfl) pa_nil))) (pe_callB (id := "isinstance") (call_isiK1 (K := K) rfl) (by rfl) T.f_isinstance (by decide +kernel) (pa_cons (pv 1) (pa_cons (pe_bltn (v := .ty "bool") (by rfl) T.f_bool (by decide +kernel) rfl) pa_nil))) (nomark _)) (pe_one (pe_cmpR op_eq (pv 0) (pv 1) (nomark _))))))) pss_nil)
      (pss_one (ps_ret (pe_and (pe_not (pe_callB (id := "isinstance") (call_isiTK (K := K) rfl) (by rfl) T.f_isinstance (by decide +kernel) (pa_cons (pv 0) (pa_cons (pe_tup (pa_cons (pe_bltn (v := .ty "int") (by rfl) T.f_int (by decide +kernel) rfl) (pa_cons (pe_bltn (v := .ty "list") (by rfl) T.f_list (by decide +kernel) rfl) (pa_cons (pe_bltn (v := .ty "tuple") (by rfl) T.f_tuple (by decide +kernel) rfl) (pa_cons (pe_bltn (v := .ty "dict") (by rfl) T.f_dict (by decide +kernel) rfl) pa_nil))))) pa_nil)))) (pe_one (pe_cmpR op_eq (pv 0) (pv 1) (nomark _))))))))), ?_⟩
    obtain ⟨x, y, rfl, h, q⟩ := h
    refine ⟨_, rfl, by show 2 ≤ sizeLine; decide, fun p np => ?_⟩
    have sp := same_new (o := .tup [.ty "list", .ty "tuple"]) np
    have hp : (upd H p (.tup [.ty "list", .ty "tuple"])) p = some (.tup [.ty "list", .ty "tuple"]) := upd_same
    generalize upd H p (.tup [.ty "list", .ty "tuple"]) = H1 at sp hp
    rcases h with ⟨rfl, hx⟩ | ⟨a, b, xs, ys, rfl, rfl, z, h, hP⟩ | ⟨a, l, rfl, rfl, ha, hR⟩
    · -- a leaf
      have hty : ∃ t, Tyb K H1 x t ∧ t ≠ "list" ∧ t ≠ "tuple" ∧ t ≠ "dict" ∧ (t = "int" ∨ t = "bool" ∨ t = "str" ∨ t = "NoneType") := by
        rcases hx with rfl | ⟨i, rfl⟩ | ⟨b, rfl⟩ | ⟨s, rfl⟩
        · exact ⟨_, tyb_non, by decide, by decide, by decide, by decide⟩
        · exact ⟨_, tyb_int, by decide, by decide, by decide, by decide⟩
        · exact ⟨_, tyb_bl, by decide, by decide, by decide, by decide⟩
        · exact ⟨_, tyb_str, by decide, by decide, by decide, by decide⟩
      obtain ⟨t, ⟨ty, ht⟩, n1, n2, n3, ht4⟩ := hty
      have hfl : flatV x = true := by
        rcases hx with rfl | ⟨i, rfl⟩ | ⟨b, rfl⟩ | ⟨s, rfl⟩ <;> rfl
      dsimp only [tNil]
      refine isiN ty ht ["list", "tuple"] (by decide) hp ?_
      have e1 : (["list", "tuple"].any (kitb t)) = false := by
        rcases ht4 with rfl | rfl | rfl | rfl <;> decide
      refine ⟨_, rfl, ?_⟩
      rw [e1]
      have e2 : kitb t "dict" = false := by
        rcases ht4 with rfl | rfl | rfl | rfl <;> decide
      refine ⟨_, rfl, _, _, _, _, _, rfl, .ty "dict", ty, kit1 ht (by decide), _, rfl, ?_⟩
      rw [e2]
      refine ⟨_, rfl, _, _, _, _, _, rfl, .ty "int", ty, kit1 ht (by decide), _, rfl, ?_⟩
      by_cases ti : t = "int" ∨ t = "bool"
      · have e3 : kitb t "int" = true := by rcases ti with rfl | rfl <;> decide
        rw [e3]
        refine ⟨_, rfl, _, _, _, _, _, rfl, .ty "int", ty, kit1 ht (by decide), _, rfl, ?_⟩
        rw [e3]
        refine ⟨_, rfl, _, _, _, _, _, rfl, .ty "bool", ty, kit1 ht (by decide), _, rfl, _, _, _, _, _, rfl, .ty "bool", ty, kit1 ht (by decide), rfl, _, rfl, ?_⟩
        rw [decide_eq_true rfl]
        refine ⟨_, rfl, _, rfl, ?_⟩
        rcases hx with rfl | ⟨i, rfl⟩ | ⟨b, rfl⟩ | ⟨s, rfl⟩
        · refine ⟨rfl, ?_⟩
          rw [decide_eq_true rfl]
          exact q _ sp
        · refine ⟨rfl, ?_⟩
          rw [decide_eq_true rfl]
          exact q _ sp
        · refine ⟨rfl, ?_⟩
          rw [decide_eq_true rfl]
          exact q _ sp
        · refine ⟨rfl, ?_⟩
          rw [decide_eq_true rfl]
          exact q _ sp
      · have e3 : kitb t "int" = false := by
          rcases ht4 with rfl | rfl | rfl | rfl
          · exact absurd (.inl rfl) ti
          · exact absurd (.inr rfl) ti
          · decide
          · decide
        rw [e3]
        refine ⟨_, rfl, by show 4 ≤ sizeLine; decide, fun p2 n2 => ?_⟩
        have s2 := same_new (o := .tup [.ty "int", .ty "list", .ty "tuple", .ty "dict"]) n2
        have hp2 : (upd H1 p2 (.tup [.ty "int", .ty "list", .ty "tuple", .ty "dict"])) p2 = some (.tup [.ty "int", .ty "list", .ty "tuple", .ty "dict"]) := upd_same
        generalize upd H1 p2 (.tup [.ty "int", .ty "list", .ty "tuple", .ty "dict"]) = H2 at s2 hp2
        dsimp only [tNil]
        refine isiN (tyX_same s2 ty) ht ["int", "list", "tuple", "dict"] (by decide) hp2 ?_
        have e4 : (["int", "list", "tuple", "dict"].any (kitb t)) = false := by
          rcases ht4 with rfl | rfl | rfl | rfl
          · exact absurd (.inl rfl) ti
          · exact absurd (.inr rfl) ti
          · decide
          · decide
        rw [e4]
        refine ⟨_, rfl, ?_⟩
        refine ⟨_, rfl, _, rfl, _, rfl, ?_⟩
        rcases hx with rfl | ⟨i, rfl⟩ | ⟨b, rfl⟩ | ⟨s, rfl⟩
        · refine ⟨rfl, ?_⟩
          rw [decide_eq_true rfl]
          exact q _ (sp.trans s2)
        · refine ⟨rfl, ?_⟩
          rw [decide_eq_true rfl]
          exact q _ (sp.trans s2)
        · refine ⟨rfl, ?_⟩
          rw [decide_eq_true rfl]
          exact q _ (sp.trans s2)
        · refine ⟨rfl, ?_⟩
          rw [decide_eq_true rfl]
          exact q _ (sp.trans s2)
    · -- two rows
      have hl := hP.length
      obtain ⟨t, ht, ta, tb, hq, la, lb⟩ : ∃ t, (t = "list" ∨ t = "tuple") ∧ Tyb K H1 (.ref a) t ∧ Tyb K H1 (.ref b) t ∧ ((SqL K H1 a xs ∧ SqL K H1 b ys) ∨ (SqT K H1 a xs ∧ SqT K H1 b ys)) ∧ LenV K (.ref a) H1 xs.length ∧ LenV K (.ref b) H1 ys.length := by
        rcases h with ⟨h1, h2⟩ | ⟨h1, h2⟩
        · have g1 := sp _ _ h1
          have g2 := sp _ _ h2
          exact ⟨"list", .inl rfl, tyb_lst g1, tyb_lst g2, .inl ⟨.of g1, .of g2⟩, .inl ⟨_, .of g1, rfl⟩, .inl ⟨_, .of g2, rfl⟩⟩
        · have g1 := sp _ _ h1
          have g2 := sp _ _ h2
          exact ⟨"tuple", .inr rfl, tyb_tup g1, tyb_tup g2, .inr ⟨.of g1, .of g2⟩, .inr ⟨_, .of g1, rfl⟩, .inr ⟨_, .of g2, rfl⟩⟩
      have hP1 : Paired (R H1) xs ys := pr_mono hP fun x y h => m _ _ _ _ sp h
      dsimp only [tNil]
      refine isiN tb.1 tb.2 ["list", "tuple"] (by decide) hp ?_
      have e1 : (["list", "tuple"].any (kitb t)) = true := by rcases ht with rfl | rfl <;> decide
      rw [e1]
      refine ⟨_, rfl, ?_⟩
      rw [if_pos rfl]
      refine ⟨_, rfl, _, _, _, _, _, rfl, .ty "list", ta.1, kit1 ta.2 (by decide), _, rfl, _, _, _, _, _, rfl, .ty "list", tb.1, kit1 tb.2 (by decide), rfl, _, rfl, ?_⟩
      rw [show (!decide (V.bl (kitb t "list") = V.bl (kitb t "list"))) = false from by simp]
      refine ⟨_, rfl, _, _, _, _, _, rfl, .ty "tuple", ta.1, kit1 ta.2 (by decide), _, rfl, _, _, _, _, _, rfl, .ty "tuple", tb.1, kit1 tb.2 (by decide), rfl, _, rfl, ?_⟩
      rw [show (!decide (V.bl (kitb t "tuple") = V.bl (kitb t "tuple"))) = false from by simp]
      refine ⟨_, rfl, _, _, rfl, la, _, rfl, _, _, rfl, lb, rfl, _, rfl, ?_⟩
      rw [decide_eq_true (by rw [hl]), if_pos rfl]
      have turn : ∀ (us : List (V × V)) (sub : ∀ u ∈ us, R H1 u.1 u.2), us.length ≤ 1000000 → True := fun _ _ _ => trivial
      have lz : (xs.zip ys).length ≤ 1000000 := by rw [List.length_zip]; omega
      refine ⟨_, rfl, _, rfl, a, b, xs, ys, rfl, ?_⟩
      rcases hq with ⟨q1, q2⟩ | ⟨q1, q2⟩
      · refine .inl ⟨q1, q2, fun D nD => ?_⟩
        refine lcw (us := xs.zip ys) (fun H v u => ∃ T, v = .ref T ∧ H T = some (.tup [u.1, u.2])) (fun _ v u => v = .bl u) (fun _ => true) (fun _ => true) (wk_itz q1 q2 hl) (fun _ _ _ _ _ h => h) lz ?_ nD ?_
        · rintro i _ u H2 QF QT hu ⟨Tt, rfl, hT⟩ s2 _ qt
          have hr := pr_zip hP1 u (mem_of i hu)
          exact ⟨Tt, _, rfl, .of hT, rfl, _, _, rfl, _, _, rfl, rfl, rfl, _, rfl, _, rfl, _, _, rfl, m _ _ _ _ s2 hr, fun H' s' => qt rfl _ _ s' rfl⟩
        · intro zs H2 s2 hD hZ
          have e := pr_eq V.bl hZ
          subst e
          refine ⟨D, _, rfl, .of hD, ?_⟩
          have e2 : (((xs.zip ys).filter fun _ => true).map fun _ => true).all id = true := by simp
          rw [e2]
          exact q _ (sp.trans s2)
      · refine .inr ⟨q1, q2, fun D nD => ?_⟩
        refine lcw (us := xs.zip ys) (fun H v u => ∃ T, v = .ref T ∧ H T = some (.tup [u.1, u.2])) (fun _ v u => v = .bl u) (fun _ => true) (fun _ => true) (wk_itzT q1 q2 hl) (fun _ _ _ _ _ h => h) lz ?_ nD ?_
        · rintro i _ u H2 QF QT hu ⟨Tt, rfl, hT⟩ s2 _ qt
          have hr := pr_zip hP1 u (mem_of i hu)
          exact ⟨Tt, _, rfl, .of hT, rfl, _, _, rfl, _, _, rfl, rfl, rfl, _, rfl, _, rfl, _, _, rfl, m _ _ _ _ s2 hr, fun H' s' => qt rfl _ _ s' rfl⟩
        · intro zs H2 s2 hD hZ
          have e := pr_eq V.bl hZ
          subst e
          refine ⟨D, _, rfl, .of hD, ?_⟩
          have e2 : (((xs.zip ys).filter fun _ => true).map fun _ => true).all id = true := by simp
          rw [e2]
          exact q _ (sp.trans s2)
    · -- a dict
      have ha1 := sp _ _ ha
      have tb := tyb_dK (K := K) ha1
      dsimp only [tNil]
      refine isiN tb.1 tb.2 ["list", "tuple"] (by decide) hp ?_
      rw [show (["list", "tuple"].any (kitb "dict")) = false from by decide]
      refine ⟨_, rfl, ?_⟩
      rw [if_neg (by decide)]
      refine ⟨_, rfl, _, _, _, _, _, rfl, .ty "dict", tb.1, kit1 tb.2 (by decide), _, rfl, ?_⟩
      rw [show kitb "dict" "dict" = true from by decide]
      refine ⟨_, rfl, _, _, _, _, _, rfl, .ty "dict", tb.1, kit1 tb.2 (by decide), _, rfl, ?_⟩
      rw [show kitb "dict" "dict" = true from by decide]
      refine ⟨_, rfl, a, _, rfl, ha1, fun H2 p2 ts k2 np2 nts pnot hp2 hts => ?_⟩
      have ha2 := k2 _ _ ha1
      refine ⟨_, rfl, a, _, rfl, ha2, fun H3 p3 us k3 np3 nus pnot3 hp3 hus => ?_⟩
      have cv : ∀ {G : Hp} {ts : List Addr} {l : List Nat}, Paired (fun (t : Addr) (q : Key × V) => G t = some (.tup [kV q.1, q.2])) ts (dh l fun _ => .int 1) → Paired (fun t h => G t = some (.tup [hv h, .int 1])) ts l := by
        intro G ts l
        induction l generalizing ts with
        | nil => intro h; cases h; exact .nil
        | cons x l ih => intro h; cases h with
          | cons h t => exact .cons h (ih t)
      exact ⟨_, _, rfl, hR H3 p2 p3 ts us (sp.trans (Same.trans k2 k3)) (k3 _ _ hp2) hp3 (pr_mono (cv hts) fun t h e => k3 _ _ e) (cv hus), fun H' s' => q _ ((sp.trans (Same.trans k2 k3)).trans s')⟩
theorem ok_same_no (T : Txt K mg) : CallOk P w K mg base CX0 1 "_law_same" ["_law_found", "_law_due"] [] (spSm (Sm 0)) := by
  refine def_ok (st := s__law_same) T 42 36 rfl rfl sc__law_same (fun _ _ _ _ _ _ us hl => match us, hl with | [_, _], _ => rfl) (fun vs H Q E h => ?_) (fun cdv f A outer s H vs Q E hr h => ?_)
  · obtain ⟨x, y, rfl, h, _⟩ := h
    rfl
  · obtain ⟨x, y, rfl, h, _⟩ := h
    exact h.elim
theorem ok_same (T : Txt K mg) : ∀ n, CallOk P w K mg base CX0 (n + 1) "_law_same" ["_law_found", "_law_due"] [] (spSm (Sm n))
  | 0 => ok_same_no T
  | n + 1 => ok_same_step T (sm_mono n) (ok_same T n)
end
end K80

set_option maxHeartbeats 4000000
/-! several except clauses, with names and without -/
namespace K80
open PySem PySem.Spec L2
open PyProof.Rows hiding St
/-- a clause «as n», n's slot i: it holds the error within, and is empty behind -/
def asTS (i : Nat) (ts : Addr → Value → Option Addr → TS) : Addr → Value → Option Addr → TS := fun a cls d D σ H =>
  ts a cls d { nx := fun σ' H' => D.nx (σ'.set i none) H', rt := D.rt, bk := fun σ' H' => D.bk (σ'.set i none) H', ct := fun σ' H' => D.ct (σ'.set i none) H' } (σ.set i (some (.ref a))) H
abbrev Suite (X : Cx) (b : List Stmt) (ts : Addr → Value → Option Addr → TS) : Prop := ∀ (a : Addr) (oe : Obj) (cls : Value) (d : Option Addr) (pn : List (Addr × Obj)), Zc cls d oe → (∃ vs, oe.data = .fields vs) → PSs (X.suite a ((a, oe) :: pn)) b (ts a cls d)
inductive HdsA (X : Cx) : List ExceptHandler → List (Value × (Addr → Value → Option Addr → TS)) → Prop
  | nil : HdsA X [] []
  | bare {x : Str} {c : Value} {ts : Addr → Value → Option Addr → TS} {b : Stmt} {bs : List Stmt} {np p : Pos} {hds : List ExceptHandler} {l : List (Value × (Addr → Value → Option Addr → TS))} (hc : Names X x c) (hsu : Suite X (b :: bs) ts) (r : HdsA X hds l) :
      HdsA X (.ExceptHandler (some (.Name x np)) none (b :: bs) p :: hds) ((c, ts) :: l)
  | as {x n : Str} {c : Value} {ts : Addr → Value → Option Addr → TS} {b : Stmt} {bs : List Stmt} {np p : Pos} {hds : List ExceptHandler} {l : List (Value × (Addr → Value → Option Addr → TS))} {i : Nat} (hc : Names X x c) (hN : X.N.Nodup) (hi : X.N[i]? = some n) (hln : X.env.kindOf n = some .local) (hsu : Suite X (b :: bs) ts) (r : HdsA X hds l) :
      HdsA X (.ExceptHandler (some (.Name x np)) (some n) (b :: bs) p :: hds) ((c, asTS i ts) :: l)
section
variable {X : Cx} {body : List Stmt} {h₀ : ExceptHandler} {hds : List ExceptHandler} {l : List (Value × (Addr → Value → Option Addr → TS))} {pos : Pos} {tb : WX → TS} {Wout : WX}
theorem ps_try_manyA (hs : X.stack = X.env :: X.outer) (hf : X.env.frame = some X.env.locals) (tk : Takes X Wout)
    (hb : ∀ (W : WX) (pn : List (Addr × Obj)) (xe : Value → Shared → Prop), Takes (X.tr pn xe) W → PassesOwn (model X.prog X.w) X.A X.env xe → PSs (X.tr pn xe) body (tb W))
    (hh : HdsA X (h₀ :: hds) l) : PS X (.Try body (h₀ :: hds) [] [] pos) (fun D σ H => tb (wMany X.K Wout D l) D σ H) := by
  refine ⟨fun pins s σ H D I h => ?_⟩
  have ok := I.ok
  have hfr : X.A.frames = some (X.env :: X.outer) := by rw [ok.frames, hs]
  have caught := fun (e : Value) (s₁ : Shared) => wpAny (model X.prog X.w) X.A (noteFrame e X.env) (fun _ s₂ => wpAny (model X.prog X.w) X.A (setFlight e none) (fun _ s₃ => wpAny (model X.prog X.w) X.A (handleBy e X.env (h₀ :: hds)) (SP X pins D) X.xe s₃) X.xe s₂) X.xe s₁
  refine wpAny_Try_except (wpAny_mono ((hb (wMany X.K Wout D l) (X.pn ++ pins) _ (fun u s' xx => ?_) PassesOwn.looking).run [] s σ H D (I.toTry _) h) (fun f s1 hsp => ?_) (fun e s1 he => he))
  case refine_2 =>
    cases f with
    | next => obtain ⟨τ, G, J, q⟩ := hsp; exact wpAny_execs_nil ⟨τ, G, J.ofTry ok, q⟩
    | brk => obtain ⟨τ, G, J, q⟩ := hsp; exact ⟨τ, G, J.ofTry ok, q⟩
    | cont => obtain ⟨τ, G, J, q⟩ := hsp; exact ⟨τ, G, J.ofTry ok, q⟩
    | ret u => obtain ⟨v, τ, G, J, r, q⟩ := hsp; exact ⟨v, τ, G, J.ofTry ok, r, q⟩
  case refine_1 =>
    obtain ⟨a, B, sI, pinsT, τ, G, cls, d, rfl, JT, nb, up, sky, na, os, ag, w⟩ := xx
    have J : Inv X pins τ G sI := JT.ofTry ok
    have skyE : Sky B (X.env :: X.outer) a (Zc cls d) X.env.locals s'.heap := by rw [← hs]; exact sky
    show wpAny (model X.prog X.w) X.A (noteFrame (.ref a) X.env) _ _ _
    refine Sky.land Zc.steady hfr hf skyE fun g flg upg => ?_
    have Jg : Inv X pins τ G { s' with heap := g } := J.landed nb flg.1 (up.trans upg) os ag
    obtain ⟨oe, vs, hoe, hz, hd⟩ := flg.there
    -- the error is no frame's record
    have nfr : a ∉ frs (X.env :: X.outer) := fun hm => by
      obtain ⟨_, o', e', hnf⟩ := flg.2.2.1.mem hm
      rw [hoe] at e'
      cases e'
      exact hnf _ hd
    have nL : a ≠ X.env.locals := fun z => nfr (List.mem_filterMap.mpr ⟨X.env, List.mem_cons_self, by rw [hf, z]⟩)
    have nF : a ∉ X.fs := fun hm => by
      obtain ⟨e, he, q⟩ := List.mem_filterMap.mp hm
      exact nfr (List.mem_filterMap.mpr ⟨e, List.mem_cons_of_mem _ he, q⟩)
    have Sg := Jg.suite hoe hd na nL nF
    have look : ∀ {x : Str} {c : Value} {np : Pos}, Names X x c → ∀ {Q : Value → Shared → Prop} {E : Value → Shared → Prop}, Q c { s' with heap := g } → wpAny (model X.prog X.w) (X.A.mark (some (.ref a))) (eval (.Name x np) X.env) Q E { s' with heap := g } := by
      intro x c np hc Q E q
      obtain ⟨hg, hdbg, hm | ⟨hm, hv, hnn⟩⟩ := hc
      · exact ld_glob (X := X.suite a ((a, oe) :: (X.pn ++ pins))) Sg hg hm q hdbg
      · exact ld_blt (X := X.suite a ((a, oe) :: (X.pn ++ pins))) Sg hg hm hv q hnn hdbg
    have tells : ∀ {c : Value} {b : Bool}, PySem.W.exmOne X.K cls c = some b → ∀ {Q : Bool → Shared → Prop} {E : Value → Shared → Prop}, Q b { s' with heap := g } → wpAny (model X.prog X.w) (X.A.mark (some (.ref a))) (excMatches (.ref a) c) Q E { s' with heap := g } := by
      intro c b hb Q E q
      have LT : PySem.W.Looks (model X.prog X.w) g (typeOf (.ref a)) cls := fun A Q E s k q => wpAny_typeOf_ref (k _ _ hoe) (by rw [hz.1]; exact q)
      exact (PySem.W.exm_one (M := model X.prog X.w) (Jg.kIn) LT hb).here q
    have go : ∀ {hs' : List ExceptHandler} {l' : List (Value × (Addr → Value → Option Addr → TS))}, HdsA X hs' l' → wMany X.K Wout D l' cls d τ G → wpAny (model X.prog X.w) X.A (handleBy (.ref a) X.env hs') (SP X pins D) X.xe { s' with heap := g } := by
      intro hs' l' hk
      induction hk with
      | nil =>
        intro w
        obtain ⟨_, _, _, o, vs2, T, oT, ts, h1, h2, h3, h4, _⟩ := id flg
        refine wpAny_handleBy_nil ?_
        unfold PySem.passOn
        refine wpAny_bind (wpAny_field h1 h3 h4 ?_)
        rw [if_neg (by simp)]
        have out : wpAny (model X.prog X.w) X.A (setFlight (.ref a) X.env.frame) (fun _ s4 => wpAny (model X.prog X.w) X.A (throw (.ref a) : Sem Flow) (SP X pins D) X.xe s4) X.xe { s' with heap := g } := by
          rw [hf]
          exact HandSPX.setFlight_upZ flg fun h4 hh4 up4 => wpAny_throw (tk _ _ ⟨a, B, sI, pins, τ, G, cls, d, rfl, J, nb, (up.trans upg).trans up4, .inr (.inr (by rw [hs]; exact hh4)), na, os, ag, w⟩)
        first
          | exact wpAny_bind (wpAny_pure (wpAny_bind out))
          | exact wpAny_bind out
      | bare hc hsu r ih =>
        rintro ⟨b, hb1, hyes, hno⟩
        refine wpAny_handleBy_cons (codeAny_handlers_test (look hc (tells hb1 ?_))) (by intro q; cases q)
        cases b with
        | false => exact ih (hno rfl)
        | true =>
          refine codeAny_handlers_suite (HandSPX.lands_againZ flg fun k flk upk => ?_)
          have Jk : Inv X pins τ G { s' with heap := k } := J.landed nb flk.1 ((up.trans upg).trans upk) os ag
          obtain ⟨ok2, vk, hok2, hzk, hdk⟩ := flk.there
          refine wpAny_mono ((hsu a ok2 cls d (X.pn ++ pins) hzk ⟨_, hdk⟩).run [] _ _ G _ (Jk.suite hok2 hdk na nL nF) (hyes rfl a na)) (fun f s6 hsp => ?_) (fun _ _ z => z.elim)
          cases f with
          | next => obtain ⟨τ6, G6, S6, q6⟩ := hsp; exact ⟨_, _, S6.unsuite ok, q6⟩
          | brk => obtain ⟨τ6, G6, S6, q6⟩ := hsp; exact ⟨_, _, S6.unsuite ok, q6⟩
          | cont => obtain ⟨τ6, G6, S6, q6⟩ := hsp; exact ⟨_, _, S6.unsuite ok, q6⟩
          | ret u => obtain ⟨v6, τ6, G6, S6, r6, q6⟩ := hsp; exact ⟨_, _, _, S6.unsuite ok, r6, q6⟩
      | as hc hN hi hln hsu r ih =>
        rename_i x n c ts b0 bs np p hds2 l2 i
        rintro ⟨b, hb1, hyes, hno⟩
        refine wpAny_handleBy_cons (codeAny_handlers_test (look hc (tells hb1 ?_))) (by intro q; cases q)
        cases b with
        | false => exact ih (hno rfl)
        | true =>
          refine codeAny_handlers_suite_as (HandSPX.lands_againZ flg fun k flk upk => ?_)
          have Jk : Inv X pins τ G { s' with heap := k } := J.landed nb flk.1 ((up.trans upg).trans upk) os ag
          obtain ⟨ok2, vk, hok2, hzk, hdk⟩ := flk.there
          refine store_ok (X := X.suite a ((a, ok2) :: (X.pn ++ pins))) (v := .ref a) (Jk.suite hok2 hdk na nL nF) hN hi (.inl hln) rfl (fun s5 S5 => ?_) (.inr hln)
          have away : ∀ {τ6 : L2.St} {G6 : Hp} {s6 : Shared} {Q : Shared → Prop}, Inv (X.suite a ((a, ok2) :: (X.pn ++ pins))) [] τ6 G6 s6 → (∀ s7, Inv X pins (τ6.set i none) G6 s7 → Q s7) →
              wpAny (model X.prog X.w) X.A (do bindName X.env n .none; unbindBehindTheSuite X.env n p) (fun _ s7 => Q s7) X.xe s6 := fun S6 hq => gone_ok (S6.unsuite ok) hN hi hln hq
          refine wpAny_mono ((hsu a ok2 cls d (X.pn ++ pins) hzk ⟨_, hdk⟩).run [] s5 _ G _ S5 (hyes rfl a na)) (fun f s6 hsp => ?_) (fun _ _ z => z.elim)
          cases f with
          | next => obtain ⟨τ6, G6, S6, q6⟩ := hsp; exact away S6 fun s7 J7 => ⟨_, _, J7, q6⟩
          | brk => obtain ⟨τ6, G6, S6, q6⟩ := hsp; exact away S6 fun s7 J7 => ⟨_, _, J7, q6⟩
          | cont => obtain ⟨τ6, G6, S6, q6⟩ := hsp; exact away S6 fun s7 J7 => ⟨_, _, J7, q6⟩
          | ret u => obtain ⟨v6, τ6, G6, S6, r6, q6⟩ := hsp; exact away S6 fun s7 J7 => ⟨_, _, _, J7, r6, q6⟩
    exact go hh w
end
end K80

set_option maxHeartbeats 4000000
/-! how an asking ends: told, or refused -/
namespace K80
open PySem PySem.Spec L2 LamX NdefX
open PyProof.Rows hiding St
section
variable {X : Cx} {CX : CXT} {k i : Nat} {f : Addr} {sp : Sp} {E : L2.St → XK} {x : Str} {p pos : Pos}
def tCbS (i : Nat) (f : Addr) (sp : Sp) (E : L2.St → XK) (H0 : Hp) : TE := fun σ H Q => σ[i]? = some (some (.ref f)) ∧ KeepE H0 H ∧ sp [] H Q (E σ)
theorem cb_callS {pins : List (Addr × Obj)} {σ : L2.St} {H : Hp} {s : Shared} {Q : VK} {us : List Value} {vs : List V} {E : XK} (C : Cb X.prog X.w X.K X.mg X.base CX k f sp X.outer X.s_0 X.H_0) (hex : X.ex = []) (hst : X.stack = X.env :: X.outer) (hfr : X.env.frame = some X.env.locals) (hr : Room k X.A) (hx : PassesAt CX X σ E)
    (I : Inv X pins σ H s) (ke : KeepE X.H_0 H) (r : Vals vs us) (q : sp vs H Q E) : wpAny (model X.prog X.w) X.A (call (.ref f) us) (EP X pins σ Q) X.xe s := by
  have un : Un (frs X.stack) [] X.H_0 H X.s_0.heap s.heap := by
    have z := I.base
    rw [hex] at z
    refine z.mono (fun b hb => ?_) fun b hb => hb
    rw [hst]
    unfold frs at hb ⊢
    rw [List.filterMap_cons, hfr]
    exact List.mem_cons_of_mem _ hb
  have fr : ∀ b ∈ frs X.stack, b ∈ frs X.outer ∨ X.s_0.heap.objs.size ≤ b := fun b hb => by
    rw [hst] at hb
    unfold frs at hb
    rw [List.filterMap_cons, hfr] at hb
    rcases List.mem_cons.mp hb with z | z
    · exact .inr (z ▸ I.ok.above)
    · exact .inl z
  refine wpAny_call (codeAny_mono (C.run X.A X.stack s H us vs Q E hr I.env0 un ke fr r q) fun r s' hq => ?_)
  cases r with
  | error e => exact hx pins H s e s' I hq
  | ok fl =>
    cases fl with
    | ret u => exact I.after hq
    | next => exact hq.elim
    | brk => exact hq.elim
    | cont => exact hq.elim
theorem pe_cb0S {H0 : Hp} (eH0 : X.H_0 = H0) (C : Cb X.prog X.w X.K X.mg X.base CX k f sp X.outer X.s_0 X.H_0) (hex : X.ex = []) (hst : X.stack = X.env :: X.outer) (hfr : X.env.frame = some X.env.locals) (hr : Room k X.A) (hx : ∀ σ, PassesAt CX X σ (E σ)) (hN : X.N[i]? = some x) (hv : Vis X.env.scope x)
    (hd : (x == ("__debug__" : Str)) = false := by decide) (hcd : (x == ("__classdict__" : Str)) = false := by decide) : PE X (.Call (.Name x p) [] [] pos) (tCbS i f sp E H0) := by
  subst eH0
  refine ⟨fun pins s σ H Q I ⟨h1, ke, q⟩ => ?_⟩
  refine wpAny_Call_Name_kw (thn ((pe_var (pos := p) hN hv hd hcd).run pins s σ H (fun v H1 => v = .ref f ∧ H1 = H) I ⟨.ref f, h1, rfl, rfl⟩) fun u s1 ⟨v, H1, I1, r1, ev, eH⟩ => ?_)
  rw [eH] at I1
  rw [ev] at r1
  have eu : u = Value.ref f := r1
  rw [eu]
  obtain ⟨F, hF⟩ := C.fn
  refine PySem.W.callWith_F0 (first := []) (lam_fnAt I1 (ke _ _ hF)) ?_
  exact cb_callS C hex hst hfr hr (hx σ) I1 ke .nil q
end
abbrev s__law_met : Stmt := (topS 73)
theorem sc__law_met : FnScope ["_law_ask", "e"] ["_law_ask"] (defScope s__law_met) := ⟨rfl, rfl, rfl, by decide +kernel, rfl, by decide +kernel, by decide +kernel⟩
section
variable {P : Program} {w : World} {K : PySem.W.Frag} {mg : Str → Option Value} {base : Heap}
/-- a lambda's raising: the wish of each of the three clauses -/
def MetX (K : PySem.W.Frag) (Q : VK) (cls : Value) (d : Option Addr) (H : Hp) : Prop :=
  (∃ v, (cls = .ref (He.ga K "BadFar") ∧ ∃ dd, d = some dd ∧ H dd = some (.xd [("thing", v)])) ∧ ∀ p H2, Same H H2 → H p = none → H2 p = some (.tup [.str "far", v]) → Q (.ref p) H2) ∨
  (∃ v, (cls = .ref (He.ga K "BadReading") ∧ ∃ dd, d = some dd ∧ H dd = some (.xd [("thing", v)])) ∧ ∀ p H2, Same H H2 → H p = none → H2 p = some (.tup [.str "reading", v]) → Q (.ref p) H2) ∨
  (cls = .type "ZeroDivisionError" ∧ ∀ p H2, Same H H2 → H p = none → H2 p = some (.tup [.str "raised", .non]) → Q (.ref p) H2)
def spMet (K : PySem.W.Frag) (f : Addr) (sp : Sp) : Sp := fun vs H Q _ => vs = [.ref f] ∧ ∀ Q' E', (∀ cls d H', MetX K Q cls d H' → E' cls d H') → sp [] H Q' E'
theorem met_body (T : Txt K mg) {f : Addr} {sp : Sp} {g : Addr} {cdv : Value} {A : Around} {outer : List Env} {s : Shared} {H : Hp} {vs : List V} {Q : VK} {E : XK} (hr : Room 12 (A.deeper (envOfC "_law_met" (defScope s__law_met) s.heap.objs.size g cdv)))
    (CB : Cb P w K mg base (L2.CX P w) 12 f sp outer s H) (h : spMet K f sp vs H Q E) :
    ∃ t, PSs (cxOf (L2.CX P w) P w K mg base ["_law_ask", "e"] "_law_met" (defScope s__law_met) g cdv A outer s H E).nox (defBody s__law_met) t ∧ t { nx := fun _ H' => Q .non H', rt := Q } (start ["_law_ask", "e"] vs) H := by
  have RF : ErrOk P w K mg base "BadFar" := errFar T
  have RR : ErrOk P w K mg base "BadReading" := errReading T
  obtain ⟨rfl, h⟩ := h
  refine ⟨_, (pss_one (ps_try_manyA rfl rfl L2.takes0 (fun W pn xe tk _ => pss_one (ps_ret (pe_tup (pa_cons pe_str (pa_cons (pe_cb0S (i := 0) (H0 := H) rfl CB rfl rfl rfl (hr.mono (by decide)) (passAt tk) (by rfl) (.inl rfl)) pa_nil))))) (.as (i := 1) ⟨by rfl, by decide, .inl RF.glo⟩ sc__law_met.nd rfl rfl (fun a oe cls d pn hz hf => pss_one (ps_ret (pe_tup (pa_cons pe_str (pa_cons (pe_xf RF.xf RF.nt hz hf (pv 1)) pa_nil))))) (.as (i := 1) ⟨by rfl, by decide, .inl RR.glo⟩ sc__law_met.nd rfl rfl (fun a oe cls d pn hz hf => pss_one (ps_ret (pe_tup (pa_cons pe_str (pa_cons (pe_xf RR.xf RR.nt hz hf (pv 1)) pa_nil))))) (.bare (names_blt (by rfl) T.f_ZeroDivisionError boot_ZeroDivisionError) (fun a oe cls d pn hz hf => pss_one (ps_ret (pe_tup (pa_cons pe_str (pa_cons pe_non pa_nil))))) .nil))))), ?_⟩
  have ff : PySem.W.exmOne K (.ref (He.ga K "BadFar")) (.ref (He.ga K "BadFar")) = some true := He.exm_ok (T.says.fact 101 rfl)
  have rf : PySem.W.exmOne K (.ref (He.ga K "BadReading")) (.ref (He.ga K "BadFar")) = some false := He.exm_ok (T.says.fact 103 rfl)
  have rr : PySem.W.exmOne K (.ref (He.ga K "BadReading")) (.ref (He.ga K "BadReading")) = some true := He.exm_ok (T.says.fact 104 rfl)
  obtain ⟨_, _, zf, zr⟩ := txt_errs T
  have zz : PySem.W.exmOne K (.type "ZeroDivisionError") (.type "ZeroDivisionError") = some true := by kernel_rfl
  refine ⟨rfl, fun _ _ e => e, h _ _ fun cls d H' hm => ?_⟩
  rcases hm with ⟨v, ⟨rfl, dd, rfl, hd⟩, q⟩ | ⟨v, ⟨rfl, dd, rfl, hd⟩, q⟩ | ⟨rfl, q⟩
  · refine ⟨true, ff, fun _ a na => ?_, fun z => nomatch z⟩
    exact ⟨_, rfl, rfl, rfl, dd, _, v, rfl, hd, rfl, by show 2 ≤ sizeLine; decide, fun p np => q p _ (same_new np) np upd_same⟩
  · refine ⟨false, rf, (fun z => nomatch z), fun _ => ⟨true, rr, fun _ a na => ?_, fun z => nomatch z⟩⟩
    exact ⟨_, rfl, rfl, rfl, dd, _, v, rfl, hd, rfl, by show 2 ≤ sizeLine; decide, fun p np => q p _ (same_new np) np upd_same⟩
  · refine ⟨false, zf, (fun z => nomatch z), fun _ => ⟨false, zr, (fun z => nomatch z), fun _ => ⟨true, zz, fun _ a na => ?_, fun z => nomatch z⟩⟩⟩
    exact ⟨by show 2 ≤ sizeLine; decide, fun p np => q p _ (same_new np) np upd_same⟩
theorem ok_met (T : Txt K mg) : CallOkS P w K mg base 13 12 "_law_met" ["_law_ask"] [] (spMet K) := by
  obtain ⟨fd, F⟩ := T.says.def_ 62 rfl
  have hm : mg "_law_met" = some (.ref (He.ga K "_law_met")) := T.glo "_law_met" (mem_of 56 rfl)
  have b1 := F.bindsN (ps := (["_law_ask"] : List Str)) (fun _ _ _ _ _ _ us hl => match us, hl with | [_], _ => rfl)
  refine ⟨_, fd, [], hm, F.kp, b1, .nil, (fun f sp vs H Q E q => by obtain ⟨rfl, _⟩ := q; rfl), fun A outer s H args us vs Q E f sp hr e0 hb r cb q => ?_⟩
  obtain ⟨oc, od, dV, kV, doc, pm, an, cdv, ct, osl, e, lk, hcd, _, _⟩ := F.ex
  rw [e] at hb
  have hl : vs.length = 1 := by obtain ⟨rfl, _⟩ := q; rfl
  exact run_ofS (lk.trans (by rw [e])) hcd sc__law_met hr e0 hb r hl fun hr' => let ⟨t, ht, hq⟩ := met_body T hr' cb q; ⟨t, ht.nox, hq⟩
end
end K80

set_option maxHeartbeats 4000000
/-! lambdas made, their code objects in tables that are tracked, one within another -/
namespace K80
open PySem PySem.Spec L2 LamX NdefX
open PyProof.Rows hiding St
/-- the tables that are known, each with the words before its code objects' names -/
abbrev Tmap := Addr → Option Str
abbrev qIn (q : Str) : Str := q ++ ("<lambda>" : Str) ++ (".<locals>." : Str)
def TW (τ : Tmap) (H : Hp) : Prop := ∀ P q, τ P = some q → ∃ ps : Array Value, H P = some (.tbl ps) ∧ TriplesOk ps.toList ∧ ∀ (pos : Pos) (cv : Value), codeAmong pos ps.toList = some cv → ∃ c' P', cv = .ref c' ∧ H c' = some (CdO c' (q ++ ("<lambda>" : Str)) P') ∧ τ P' = some (qIn q)
def TLe (τ τ' : Tmap) : Prop := ∀ P q, τ P = some q → τ' P = some q
theorem TLe.refl (τ : Tmap) : TLe τ τ := fun _ _ h => h
theorem TLe.trans {a b c : Tmap} (h : TLe a b) (k : TLe b c) : TLe a c := fun P q e => k P q (h P q e)
theorem cdO_ne {c P : Addr} {q : Str} (ps : Array Value) : CdO c q P ≠ .tbl ps := fun z => by unfold CdO at z; cases z
theorem TW.same {τ : Tmap} {H H' : Hp} (t : TW τ H) (s : Same H H') : TW τ H' := fun P q e =>
  let ⟨ps, h1, h2, h3⟩ := t P q e; ⟨ps, s _ _ h1, h2, fun pos cv h => let ⟨c', P', e1, e2, e3⟩ := h3 pos cv h; ⟨c', P', e1, s _ _ e2, e3⟩⟩
theorem extN_same {H H' : Hp} (s : Same H H') : ExtN H H' := fun b o e _ => s b o e
section
variable {M : Model} {A : Around} {E : Value → Shared → Prop} {s : Shared} {name qual : Str} {params : Arguments} {body : Expr} {scope : Scope} {env : Env} {c P : Addr} {ps : Array Value} {pos : Pos} {firstLine : Nat} {mg : Str → Option Value} {clos : List (Str × Addr)} {Q : Value → Shared → Prop}
/-- a function of an expression: its code object is new, and so is that one's table -/
theorem tail_new (hcl : closureFor scope env = pure clos) (hge : env.globals = mainGlobals) (hg : s.heap.Ns mainGlobals mg) (hcode : env.code = .ref c) (C : PySem.W.CodeHd s.heap c P) (hP : s.heap.get? P = some (PySem.W.tabObj ps)) (ht : TriplesOk ps.toList) (hn : codeAmong pos ps.toList = none) (hgP : mainGlobals ≠ P) (hb : s.heap.BuiltinsAt mg P)
    (h : ∀ (c' P' : Addr) (ctv : Value) (h' : Heap) (tk : Tok), (∀ b o, b ≠ P → s.heap.get? b = some o → h'.get? b = some o) → s.heap.objs.size ≤ c' → s.heap.objs.size ≤ P' → c' < h'.objs.size → P' < h'.objs.size → h'.CodeRec (.ref c') qual → PySem.W.CodeHd h' c' P' → h'.get? P' = some (PySem.W.tabObj #[]) → h'.get? P = some (PySem.W.tabObj (ps ++ #[rawInt pos.line, rawInt pos.col, .ref c'])) →
      Q (.ref h'.objs.size) { s with heap := h'.push (PySem.W.kla_obj name qual params body scope clos ((mg "__name__").getD .none) c' ctv), toks := tk }) :
    wpAny M A (makeFunction name qual params (.expr body) scope env [] [] [] pos firstLine) Q E s := by
  rw [makeFunction_eq]
  simp only [List.zip_nil_right, List.filterMap_nil, List.isEmpty_nil, if_true, pure_bind]
  unfold makeTail
  rw [hcl, hge]
  obtain ⟨bm, ob, b1, b2, _, b4, b5, b6, b7, b8⟩ := hb
  refine wpAny_bind (wpAny_pure ?_)
  -- behind the closure's tuple: any later heap in which nothing was lost
  have key : ∀ (ctv : Value) (g : Heap) (t0 : Tok), (∀ b o, s.heap.get? b = some o → g.get? b = some o) → s.heap.objs.size ≤ g.objs.size →
      wpAny M A (do
        let code ← functionCode env pos firstLine name qual params scope (.expr body)
        let builtins ← builtinsFor mainGlobals env.builtins
        let pm ← nsGet mainGlobals "__name__"
        newObj (.type "function") (.func { name := name, qualname := qual, params := params, body := .expr body, scope := scope, globals := mainGlobals, closure := clos, closureTuple := ctv, code := code, builtins := builtins, defaults := .none, kwdefaults := .none, annotations := none, pyModule := pm.getD .none, doc := .none })) Q E { s with heap := g, toks := t0 } := by
    intro ctv g t0 k sz
    have Cg := C.keeps k
    refine wpAny_bind (wpAny_functionCodeX hcode (Cg.code (k _ _ hP) ht) (Cg.tab (k _ _ hP)) hn fun c' h' tk hx hge' hlt _ hrec htb hnew => ?_)
    obtain ⟨P', hP', hcd', htb'⟩ := hnew
    have CP := PySem.W.CodeHd.of hcd' htb'
    have hx' : ∀ b o, b ≠ P → s.heap.get? b = some o → h'.get? b = some o := fun b o n e => hx b o n (k b o e)
    have hg' := (show Heap.Ns g mainGlobals mg from hg.keeps k).extBut hx hgP
    refine wpAny_bind (wpAny_builtinsFor hg' b1 b2 (hx' _ _ b4 b5) b6 b7 b8 ?_)
    refine wpAny_bind (wpAny_nsGet hg' ?_)
    exact wpAny_newObj_type (h c' P' ctv h' tk hx' (Nat.le_trans sz hge') (Nat.le_trans sz hP') hlt (Heap.lt_size htb'.2) hrec CP htb'.2 htb.2) (by size_fits)
  cases clos with
  | nil =>
    simp only [List.isEmpty_nil, if_true]
    refine wpAny_bind (wpAny_pure ?_)
    have z := key .none s.heap s.toks (fun _ _ e => e) (Nat.le_refl _)
    simpa only [pure_bind] using z
  | cons q r =>
    simp only [List.isEmpty_cons, Bool.false_eq_true, if_false]
    refine wpAny_bind (wpAny_newTextTuple ?_)
    have sz : ∀ oT : Obj, s.heap.objs.size ≤ (s.heap.push oT).objs.size := fun oT => by rw [Heap.size_push]; omega
    simp only [pure_bind]
    exact key _ _ _ (fun b o e => Heap.get?_push_of_some _ e) (sz _)
end
section
variable {X : Cx} {pins : List (Addr × Obj)} {σ : L2.St} {H : Hp} {s : Shared}
/-- the table at P is written; the code object at c and its table at T are new, and known from now on -/
theorem inv_code {P c T : Addr} {q : Str} {ps more : Array Value} {h' : Heap} {t' : Nat} (I : Inv X pins σ H s) (hP : H P = some (.tbl ps)) (k : ∀ b o, b ≠ P → s.heap.get? b = some o → h'.get? b = some o) (hm : h'.get? P = some (PySem.W.tabObj (ps ++ more)))
    (hc : s.heap.objs.size ≤ c) (hT : s.heap.objs.size ≤ T) (hr : h'.CodeRec (.ref c) q) (hd : PySem.W.CodeHd h' c T) (ht : h'.get? T = some (PySem.W.tabObj #[])) :
    Inv X pins σ (upd (upd (upd H P (.tbl (ps ++ more))) T (.tbl #[])) c (CdO c q T)) { s with heap := h', toks := t' } := by
  have cT : c ≠ T := by
    obtain ⟨_, _, _, _, _, _, _, _, _, _, _, _, _, _, _, _, _, _, n⟩ := id hd
    exact n
  have nC : H c = none := I.hok.fresh hc
  have nT : H T = none := I.hok.fresh hT
  have Pc : P ≠ c := ne_of_none hP nC
  have PT : P ≠ T := ne_of_none hP nT
  have eC : (upd (upd (upd H P (.tbl (ps ++ more))) T (.tbl #[])) c (CdO c q T)) c = some (CdO c q T) := upd_same
  have eT : (upd (upd (upd H P (.tbl (ps ++ more))) T (.tbl #[])) c (CdO c q T)) T = some (.tbl #[]) := by rw [upd_ne cT.symm, upd_same]
  have eP : (upd (upd (upd H P (.tbl (ps ++ more))) T (.tbl #[])) c (CdO c q T)) P = some (.tbl (ps ++ more)) := by rw [upd_ne Pc, upd_ne PT, upd_same]
  have eE : ∀ b, b ≠ P → b ≠ T → b ≠ c → (upd (upd (upd H P (.tbl (ps ++ more))) T (.tbl #[])) c (CdO c q T)) b = H b := fun b h1 h2 h3 => by rw [upd_ne h3, upd_ne h2, upd_ne h1]
  have old : ∀ b o, s.heap.get? b = some o → b ≠ T ∧ b ≠ c := fun b o e => ⟨fun z => by
    rw [z] at e; exact Nat.lt_irrefl _ (Nat.lt_of_lt_of_le (Heap.lt_size e) hT), fun z => by
    rw [z] at e; exact Nat.lt_irrefl _ (Nat.lt_of_lt_of_le (Heap.lt_size e) hc)⟩
  have trk : ∀ b u, H b = some u → b ≠ T ∧ b ≠ c := fun b u e => ⟨ne_of_none e nT, ne_of_none e nC⟩
  have notP : ∀ b u, H b = some u → (∀ z, u ≠ .tbl z) → b ≠ P := fun b u e n z => by
    rw [z, hP] at e
    exact n ps (Option.some.inj e).symm
  have unP : ∀ b, H b = none → b ≠ P := fun b e z => by rw [z, hP] at e; cases e
  have same : ∀ b u, H b = some u → (∀ z, u ≠ .tbl z) → (upd (upd (upd H P (.tbl (ps ++ more))) T (.tbl #[])) c (CdO c q T)) b = some u := fun b u e n => by rw [eE b (notP b u e n) (trk b u e).1 (trk b u e).2]; exact e
  refine I.step (g' := s.gens) (d' := s.drawn) (ch := []) (fun b hb => nomatch hb) (fun b o _ _ _ e n => k b o (unP b n) e) (fun b o _ _ _ e n => ⟨o.slots, k b o (unP b n) e⟩) (fun b o _ e n => by rw [eE b (unP b n) (old b o e).1 (old b o e).2]; exact n) (fun b o _ e => ?_)
    (fun b xs e => same b _ e fun z h => by cases h) (fun b o u e => same b _ e fun z h => by cases h) (fun b z e => ?_) (fun m hn => ?_) (fun b u e => ?_) I.bare
  · by_cases hb : b = P
    · rw [hb]; exact ⟨_, hm⟩
    · exact ⟨o, k b o hb e⟩
  · by_cases hb : b = P
    · rw [hb, hP] at e
      cases e
      rw [hb, eP]
      exact ⟨more, rfl⟩
    · rw [eE b hb (trk b _ e).1 (trk b _ e).2, e]
      exact ⟨#[], by simp⟩
  · obtain ⟨ob, es, ep, ho, r⟩ := hn
    exact ⟨ob, es, ep, k _ ob (unP _ I.free) ho, r⟩
  · by_cases b1 : b = c
    · rw [b1, eC] at e
      cases e
      rw [b1]
      obtain ⟨c2, oc, vs, t, e2, hoc, hdc, hv⟩ := hr
      cases e2
      exact cdO_ok ⟨oc, vs, t, hoc, hdc, hv⟩ hd
    · by_cases b2 : b = T
      · rw [b2, eT] at e
        cases e
        rw [b2]
        exact ht
      · by_cases b3 : b = P
        · rw [b3, eP] at e
          cases e
          rw [b3]
          exact hm
        · rw [eE b b3 b2 b1] at e
          refine (I.hok b u e).stay (fun d v hd q => k d v ?_ q) (fun d q => same d _ q fun z h => by cases h) fun d xs q => same d _ q fun z h => by cases h
          rcases hd with z | z
          · rw [z]; exact b3
          · exact notP d _ z fun w h => by cases h
/-- the function object of a lambda is known from now on -/
theorem inv_lam {F : LF} {o : Obj} {t' : Nat} {pm ctv : Value} (I : Inv X pins σ H s) (ho : o = PySem.W.kla_obj "<lambda>" F.qual F.params F.body F.scope F.cl pm F.c ctv) :
    Inv X pins σ (upd H s.heap.objs.size (LamO s.heap.objs.size F)) { s with heap := s.heap.push o, toks := t' } := by
  subst ho
  exact I.laid (a := s.heap.objs.size) (fun b u e => Heap.get?_push_of_some _ e) (Nat.le_refl _) (lamO_ok ⟨pm, ctv, Heap.get?_push_size _ rfl⟩)
/-- what a lambda's making asks of the running code object and its table -/
def CodeAtP (X : Cx) (H : Hp) (c P : Addr) : Prop := PySem.W.CodeHd X.base c P ∨ ∃ q, H c = some (CdO c q P)
theorem CodeAtP.same {X : Cx} {H H' : Hp} {c P : Addr} (h : CodeAtP X H c P) (k : KeepE H H') : CodeAtP X H' c P := h.imp id fun ⟨q, e⟩ => ⟨q, k _ _ e⟩
abbrev lfOf (X : Cx) (params : Arguments) (body : Expr) (scope : Scope) (c' : Addr) : LF := ⟨X.env.qual ++ ("<lambda>" : Str), params, body, scope, cloFrom X.env.cells scope.names [], c'⟩
/-- what stands behind the making: f the lambda, c' its code object, P' that one's table -/
structure Lmade (τ τ' : Tmap) (q : Str) (H H1 : Hp) (f c' P' : Addr) (F : LF) : Prop where
  ex : ExtN H H1
  le : TLe τ τ'
  tw : TW τ' H1
  at' : τ' P' = some (qIn q)
  fn : H1 f = some (LamO f F)
  co : H1 c' = some (CdO c' (q ++ ("<lambda>" : Str)) P')
  nf : H f = none
theorem lam_makeW {τ : Tmap} {c P P0 : Addr} {params : Arguments} {body : Expr} {scope : Scope} {pos : Pos} {E : Value → Shared → Prop} {Q : Value → Shared → Prop} (I : Inv X pins σ H s) (B0 : X.base.BuiltinsAt X.mg P0) (tw : TW τ H) (hP : τ P = some X.env.qual) (CA : CodeAtP X H c P) (hcode : X.env.code = .ref c)
    (hdef : defaultsOf params X.env = ([], [])) (hfree : ∀ y ∈ scope.names, y.2 = .free → ∃ c, X.env.cells.lookup y.1 = some c)
    (h : ∀ (f c' P' : Addr) (τ' : Tmap) (H1 : Hp) (s' : Shared), Inv X pins σ H1 s' → Lmade τ τ' X.env.qual H H1 f c' P' (lfOf X params body scope c') → Q (.ref f) s') :
    wpAny (model X.prog X.w) X.A (eval (.Lambda params body scope pos) X.env) Q E s := by
  obtain ⟨ps, hPt, ht, ha⟩ := tw P _ hP
  have gP : s.heap.get? P = some (PySem.W.tabObj ps) := I.hok P _ hPt
  have CH : PySem.W.CodeHd s.heap c P := by
    rcases CA with z | ⟨q, z⟩
    · exact z.keeps I.bk
    · exact (cdO_at I.hok z).2
  have untr : ∀ {b : Addr} {o : Obj}, X.base.get? b = some o → b ≠ P := fun {b o} e z => by
    have := (I.bs b o e).2
    rw [z, hPt] at this
    cases this
  have bP : s.heap.BuiltinsAt X.mg P := by
    obtain ⟨bm, ob, b1, b2, b3, _, b5, b6⟩ := B0
    exact ⟨bm, ob, b1, b2, b3, untr b5, I.bk _ _ b5, b6⟩
  have nG : mainGlobals ≠ P := by
    obtain ⟨o, es, ep, e, _⟩ := I.mod.glob
    exact untr e
  refine PySem.W.kla_eval hdef ?_
  cases hc : codeAmong pos ps.toList with
  | none =>
    refine tail_new (mg := X.mg) (c := c) (P := P) (ps := ps) (closure_ok hfree) I.ok.glob (I.mod.glob.keeps I.bk) hcode CH gP ht hc nG bP fun c' P' ctv h' tk hx hge hge2 hlt hlt2 hrec hcd htb' htb => ?_
    have I1 := inv_code (t' := tk) (more := #[rawInt pos.line, rawInt pos.col, .ref c']) I hPt hx htb hge hge2 hrec hcd htb'
    have nC : H c' = none := I.hok.fresh hge
    have nP' : H P' = none := I.hok.fresh hge2
    have cP' : c' ≠ P' := by
      obtain ⟨_, _, _, _, _, _, _, _, _, _, _, _, _, _, _, _, _, _, n⟩ := id hcd
      exact n
    have PP' : P ≠ P' := ne_of_none hPt nP'
    have Pc : P ≠ c' := ne_of_none hPt nC
    have I2 := inv_lam (F := lfOf X params body scope c') (t' := tk) (pm := (X.mg "__name__").getD .none) (ctv := ctv) I1 rfl
    have hsz : s.heap.objs.size ≤ h'.objs.size := Nat.le_trans hge (Nat.le_of_lt hlt)
    have nF : H h'.objs.size = none := I.hok.fresh hsz
    obtain ⟨G, eG⟩ : ∃ G, G = upd (upd (upd H P (.tbl (ps ++ #[rawInt pos.line, rawInt pos.col, .ref c']))) P' (.tbl #[])) c' (CdO c' (X.env.qual ++ ("<lambda>" : Str)) P') := ⟨_, rfl⟩
    have kG : ExtN H G := fun b o e n => by
      rw [eG, upd_ne (ne_of_none e nC), upd_ne (ne_of_none e nP'), upd_ne (fun z => n ps (by rw [z, hPt] at e; exact (Option.some.inj e).symm))]
      exact e
    have eC : G c' = some (CdO c' (X.env.qual ++ ("<lambda>" : Str)) P') := by rw [eG]; exact upd_same
    have eP' : G P' = some (.tbl #[]) := by rw [eG, upd_ne cP'.symm]; exact upd_same
    have eP : G P = some (.tbl (ps ++ #[rawInt pos.line, rawInt pos.col, .ref c'])) := by rw [eG, upd_ne Pc, upd_ne PP']; exact upd_same
    have eE : ∀ b, b ≠ P → b ≠ P' → b ≠ c' → G b = H b := fun b h1 h2 h3 => by rw [eG, upd_ne h3, upd_ne h2, upd_ne h1]
    rw [← eG] at I2
    have nFG : G h'.objs.size = none := by
      rw [eE _ (Nat.ne_of_gt (Nat.lt_of_lt_of_le (Heap.lt_size gP) hsz)) (Nat.ne_of_gt hlt2) (Nat.ne_of_gt hlt)]
      exact nF
    have sF := same_new (o := LamO h'.objs.size (lfOf X params body scope c')) nFG
    have eL : (ps ++ #[rawInt pos.line, rawInt pos.col, .ref c']).toList = ps.toList ++ [rawInt pos.line, rawInt pos.col, .ref c'] := by simp
    refine h h'.objs.size c' P' (fun b => if b = P' then some (qIn X.env.qual) else τ b) _ _ I2 ⟨kG.trans (extN_same sF), fun b q e => ?_, ?_, if_pos rfl, upd_same, sF _ _ eC, nF⟩
    · show (if b = P' then _ else τ b) = some q
      by_cases z : b = P'
      · obtain ⟨ps2, e2, _⟩ := tw b q e
        rw [z, nP'] at e2
        cases e2
      · rw [if_neg z]
        exact e
    · refine TW.same ?_ sF
      intro b q e
      have e : (if b = P' then some (qIn X.env.qual) else τ b) = some q := e
      by_cases z : b = P'
      · subst z
        exact ⟨#[], eP', True.intro, fun pos cv hc => by
          have z : codeAmong pos [] = some cv := hc
          simp [codeAmong] at z⟩
      · rw [if_neg z] at e
        have up : ∀ {c2 P2 : Addr} {q2 : Str}, H c2 = some (CdO c2 (q2 ++ ("<lambda>" : Str)) P2) → τ P2 = some (qIn q2) → G c2 = some (CdO c2 (q2 ++ ("<lambda>" : Str)) P2) ∧ (if P2 = P' then some (qIn X.env.qual) else τ P2) = some (qIn q2) := fun {c2 P2 q2} e1 e2 => by
          refine ⟨kG _ _ e1 cdO_ne, ?_⟩
          have : P2 ≠ P' := fun z => by
            obtain ⟨ps2, e3, _⟩ := tw P2 _ e2
            rw [z, nP'] at e3
            cases e3
          rw [if_neg this]
          exact e2
        by_cases zP : b = P
        · subst zP
          rw [hP] at e
          cases e
          refine ⟨_, eP, by rw [eL]; exact PySem.TriplesOk_snoc _ _ _ _ ht, fun p' cv hcv => ?_⟩
          rw [eL] at hcv
          rcases among_app2 _ ht hcv with y | ⟨y, _, _⟩
          · obtain ⟨c2, P2, e1, e2, e3⟩ := ha p' cv y
            exact ⟨c2, P2, e1, (up e2 e3).1, (up e2 e3).2⟩
          · exact ⟨c', P', y, eC, if_pos rfl⟩
        · obtain ⟨ps2, e2, e3, e4⟩ := tw b q e
          refine ⟨ps2, ?_, e3, fun p' cv hcv => ?_⟩
          · rw [eE b zP z (ne_of_none e2 nC)]
            exact e2
          · obtain ⟨c2, P2, e5, e6, e7⟩ := e4 p' cv hcv
            exact ⟨c2, P2, e5, (up e6 e7).1, (up e6 e7).2⟩
  | some cv =>
    obtain ⟨c', P', e, hco, hp'⟩ := ha pos cv hc
    subst e
    refine PySem.W.kla_makeFunctionHit (mg := X.mg) (c := c) (P := P) (ps := ps) (closure_ok hfree) I.ok.glob (I.mod.glob.keeps I.bk) hcode CH gP ht hc bP fun ctv h' tk hx hsz => ?_
    have I1 : Inv X pins σ H { s with heap := h', toks := tk } := I.kept hx
    have I2 := inv_lam (F := lfOf X params body scope c') (t' := tk) (pm := (X.mg "__name__").getD .none) (ctv := ctv) I1 rfl
    have nF : H h'.objs.size = none := I.hok.fresh hsz
    have sF := same_new (o := LamO h'.objs.size (lfOf X params body scope c')) nF
    exact h h'.objs.size c' P' τ _ _ I2 ⟨extN_same sF, TLe.refl τ, tw.same sF, hp', upd_same, sF _ _ hco, nF⟩
def tLamW (X : Cx) (params : Arguments) (body : Expr) (scope : Scope) (c : Addr) : TE := fun _ H Q => ∃ τ P, TW τ H ∧ τ P = some X.env.qual ∧ CodeAtP X H c P ∧ ∀ f c' P' τ' H1, Lmade τ τ' X.env.qual H H1 f c' P' (lfOf X params body scope c') → Q (.ref f) H1
theorem pe_lamW {c P0 : Addr} {params : Arguments} {body : Expr} {scope : Scope} {pos : Pos} (B0 : X.base.BuiltinsAt X.mg P0) (hcode : X.env.code = .ref c) (hdef : defaultsOf params X.env = ([], [])) (hfree : ∀ y ∈ scope.names, y.2 = .free → X.env.scope.names.lookup y.1 = some .cell ∨ X.env.scope.names.lookup y.1 = some .free) :
    PE X (.Lambda params body scope pos) (tLamW X params body scope c) := by
  refine ⟨fun pins s σ H Q I ⟨τ, P, tw, hP, CA, q⟩ => ?_⟩
  refine lam_makeW I B0 tw hP CA hcode hdef (fun y hy e => (hfree y hy e).elim (fun z => I.ok.has _ (.inl z)) fun z => I.ok.has _ (.inr z)) fun f c' P' τ' H1 s' I1 L => ?_
  exact ⟨.ref f, H1, I1, rfl, q f c' P' τ' H1 L⟩
/-- a // 0 -/
theorem op_div0 {W : WX} (hc : X.calm = true) (tk : Takes X W) : OpR X (binaryOp .FloorDiv) (fun x y H _ => ∃ i, x = .int i ∧ y = .int 0 ∧ ∀ d σ, W (.type "ZeroDivisionError") d σ H) := by
  intro pins s σ H x y v u Q I rx ry h
  obtain ⟨i, rfl, rfl, h⟩ := h
  obtain ⟨t, rfl⟩ := rx
  obtain ⟨t2, rfl⟩ := ry
  exact floordiv_int_or (I.ok.hd hc) (fun _ h' tk' e hx => takes_new (t' := tk') tk I hx fun d => h d σ) (fun n => absurd rfl n) fun n => absurd rfl n
end
end K80

set_option maxHeartbeats 4000000
/-! what breaks clocks: offsets that can be, hands far apart -/
namespace K80
section
variable {hs : List Nat} {ks ks' : List (Nat × Nat)} {rd : Nat × Nat → Int × Option Int} {ls : List Lt} {off0' : Nat → Int}
theorem Drawn.dne (D : Drawn hs ks rd ls off0') {a b : Nat} {v : Int} (e : direct rd ls a b = some v) : a ≠ b := by
  obtain ⟨l, hl, h⟩ := direct_rows e
  obtain ⟨_, _, n⟩ := D.prs.2.2 _ (D.lt l hl).1
  rcases h with ⟨rfl, rfl, _⟩ | ⟨_, _, rfl, rfl, _⟩
  · exact n
  · exact n.symm
/-- far sums and one edge more -/
theorem LeastOk.edge {d f : Dm} (L : LeastOk hs d f) (h2 : In2 hs d) {i a b : Nat} {x v : Int} (e1 : f i a = some x) (e2 : d a b = some v) : leO (f i b) (x + v) :=
  L.le _ _ _ (.two (L.walk _ _ _ e1) (.one (h2 a b v e2).1 (h2 a b v e2).2 e2))
theorem LeastOk.one {d f : Dm} (L : LeastOk hs d f) (h2 : In2 hs d) {a b : Nat} {v : Int} (e2 : d a b = some v) : leO (f a b) v :=
  L.le _ _ _ (.one (h2 a b v e2).1 (h2 a b v e2).2 e2)
theorem LeastOk.ring {d f : Dm} (L : LeastOk hs d f) (C : Cyc hs d) (h2 : In2 hs d) {a b : Nat} {x v : Int} (e1 : f a b = some x) (e2 : d b a = some v) : 0 ≤ x + v :=
  wlk_ring C (.two (L.walk _ _ _ e1) (.one (h2 b a v e2).1 (h2 b a v e2).2 e2))
/-- the free offsets fit -/
theorem free_fit (D : Drawn hs ks rd ls off0') {W : Wd} (eW : W = ⟨hs, ks', rd, ls⟩) {i : Nat} (hi : i ∈ hs) {up : Int} {lo : Nat → Int} (F : FreeOff W i up lo) {more : Int} (m0 : 0 ≤ more) :
    Fit (direct rd ls) fun h => offF W i up lo h + if h ∈ frees W i then more else 0 := by
  subst eW
  have L : LeastOk hs (direct rd ls) (Wd.far ⟨hs, ks', rd, ls⟩) := D.least
  have C := D.cyc
  have h2 := D.in2
  generalize hW : (⟨hs, ks', rd, ls⟩ : Wd) = W at F L ⊢
  have eh : W.hs = hs := by rw [← hW]
  intro a b v e
  obtain ⟨ha, hb⟩ := h2 a b v e
  have nab := D.dne e
  have mf : ∀ h, h ∈ frees W i ↔ h ∈ hs ∧ off0 W i h = none := fun h => by rw [mem_frees, eh]
  have o0 : ∀ h, off0 W i h = if h = i then some 0 else W.far i h := fun h => rfl
  show offF W i up lo b + (if b ∈ frees W i then more else 0) - (offF W i up lo a + (if a ∈ frees W i then more else 0)) ≤ v
  cases ea : off0 W i a with
  | some x =>
    have nfa : a ∉ frees W i := fun z => by rw [mf, ea] at z; cases z.2
    have ga : offF W i up lo a = x := by unfold offF; rw [ea]
    cases eb : off0 W i b with
    | some y =>
      have nfb : b ∉ frees W i := fun z => by rw [mf, eb] at z; cases z.2
      have gb : offF W i up lo b = y := by unfold offF; rw [eb]
      rw [if_neg nfa, if_neg nfb, ga, gb]
      rw [o0] at ea eb
      by_cases c1 : a = i
      · subst c1
        rw [if_pos rfl] at ea
        rw [if_neg (fun z => nab z.symm)] at eb
        cases ea
        obtain ⟨z, ez, hz⟩ := L.one h2 e
        rw [eb] at ez
        cases ez
        omega
      · rw [if_neg c1] at ea
        by_cases c2 : b = i
        · subst c2
          rw [if_pos rfl] at eb
          cases eb
          have := L.ring C h2 ea e
          omega
        · rw [if_neg c2] at eb
          obtain ⟨z, ez, hz⟩ := L.edge h2 ea e
          rw [eb] at ez
          cases ez
          omega
    | none =>
      exfalso
      rw [o0] at ea eb
      have c2 : b ≠ i := fun z => by rw [if_pos z] at eb; cases eb
      rw [if_neg c2] at eb
      by_cases c1 : a = i
      · subst c1
        obtain ⟨z, ez, _⟩ := L.one h2 e
        rw [eb] at ez
        cases ez
      · rw [if_neg c1] at ea
        obtain ⟨z, ez, _⟩ := L.edge h2 ea e
        rw [eb] at ez
        cases ez
  | none =>
    have fa : a ∈ frees W i := (mf a).mpr ⟨ha, ea⟩
    have ga : offF W i up lo a = up + lo a := by unfold offF; rw [ea]
    cases eb : off0 W i b with
    | some y =>
      have nfb : b ∉ frees W i := fun z => by rw [mf, eb] at z; cases z.2
      have gb : offF W i up lo b = y := by unfold offF; rw [eb]
      rw [if_pos fa, if_neg nfb, ga, gb]
      obtain ⟨x, ex, hx⟩ := L.one h2 e
      have := F.up a fa b (by rw [eh]; exact hb) nfb x ex
      rw [eb] at this
      have : y - x - lo a ≤ up := this
      omega
    | none =>
      have fb : b ∈ frees W i := (mf b).mpr ⟨hb, eb⟩
      have gb : offF W i up lo b = up + lo b := by unfold offF; rw [eb]
      rw [if_pos fa, if_pos fb, ga, gb]
      obtain ⟨la1, la2⟩ := F.low a fa
      obtain ⟨lb1, lb2⟩ := F.low b fb
      have inl : ∀ o h x, o ∈ frees W i → o ≠ h → W.far o h = some x → x ∈ 0 :: lowL W i h := fun o h x ho n ex => by
        refine List.mem_cons_of_mem _ ?_
        unfold lowL
        refine List.mem_map.mpr ⟨some x, List.mem_filter.mpr ⟨List.mem_map.mpr ⟨o, List.mem_filter.mpr ⟨ho, by simp [n]⟩, ex⟩, rfl⟩, rfl⟩
      obtain ⟨x, ex, hx⟩ := L.one h2 e
      have l1 := lb2 x (inl a b x fa nab ex)
      have l0 := lb2 0 List.mem_cons_self
      rcases List.mem_cons.mp la1 with z | z
      · omega
      · unfold lowL at z
        obtain ⟨ov, hov, e4⟩ := List.mem_map.mp z
        obtain ⟨hov1, hov2⟩ := List.mem_filter.mp hov
        obtain ⟨o, ho, e5⟩ := List.mem_map.mp hov1
        obtain ⟨ho1, ho2⟩ := List.mem_filter.mp ho
        have no : o ≠ a := fun z => by subst z; simp at ho2
        cases ov with
        | none => cases hov2
        | some y =>
          have e4 : y = lo a := e4
          by_cases c : o = b
          · subst c
            have := L.ring C h2 e5 e
            omega
          · obtain ⟨z, ez, hz⟩ := L.edge h2 e5 e
            have := lb2 z (inl o b z ho1 c ez)
            omega
theorem offF_more0 {W : Wd} {i : Nat} {up : Int} {lo : Nat → Int} : (fun h => offF W i up lo h + if h ∈ frees W i then (0 : Int) else 0) = offF W i up lo := by
  funext h
  split <;> omega
theorem brk_fit (D : Drawn hs ks rd ls off0') {tn : Nat → Int} {tq fr : Int} {off : Nat → Int} {i j : Nat} (B : Brk ⟨hs, ks', rd, ls⟩ tn tq fr off i j) : Fit (direct rd ls) off := by
  cases B with
  | far ha k mx f =>
    have h := free_fit D (ks' := ks') rfl (mem_pairs.mp k).1 f (more := 0) (Int.le_refl _)
    rw [offF_more0] at h
    exact h
  | loose k n f hz => exact free_fit D (ks' := ks') rfl (mem_pairs.mp k).1 f (by omega)
/-! ### sizes -/
theorem sz_one {v : Int} {n : Nat} (h : v.natAbs < 2 ^ n) (hn : n ≤ 2000 := by decide) : Sz 2000 (v, 1) :=
  ⟨pw h hn, by show (1 : Nat) < 2 ^ 2000; exact Nat.one_lt_two_pow (by decide), by show (0 : Int) < 1; decide⟩
theorem less_one {a b : Int} : lessF (a, 1) (b, 1) = (a - b, 1) := by
  unfold lessF
  show lowF (a * 1 - b * 1) (1 * 1) = _
  rw [Int.mul_one, Int.mul_one, Int.mul_one, low_one]
theorem below_one {a b : Int} : belowF (a, 1) (b, 1) = decide (a < b) := by
  unfold belowF
  simp
def OffBd (hs : List Nat) (off : Nat → Int) (n : Nat) : Prop := ∀ h ∈ hs, (off h).natAbs < 2 ^ n
/-- a letter can have been sent so -/
theorem can_fit (D : Drawn hs ks rd ls off0') {off : Nat → Int} (F : Fit (direct rd ls) off) (z : OffBd hs off 900) {l : Lt} (hl : l ∈ ls) : CanL rd (fun h => (off h, 1)) l := by
  obtain ⟨hk, f1, f2, f3, f4, f5, f6, f7⟩ := D.lt l hl
  obtain ⟨h1, h2, _⟩ := D.prs.2.2 _ hk
  obtain ⟨r0, r5, rm⟩ := D.rz _ hk
  have z1 : (off l.one).natAbs < 2 ^ 900 := z _ h1
  have z2 : (off l.other).natAbs < 2 ^ 900 := z _ h2
  have p23 : (2 : Nat) ^ 23 = 8388608 := by decide
  have zt : (l.heard - l.sent).natAbs < 2 ^ 900 := pw (a := 23) (by omega)
  have zd := sub_sz z2 z1
  have zz := sub_sz (pw zt (by decide : 900 ≤ 901)) zd
  have et : tookF (fun h => (off h, 1)) l = (l.heard - l.sent - (off l.other - off l.one), 1) := by
    unfold tookF
    rw [less_one, less_one]
  have zl : ∀ m : Int, 0 ≤ m → m ≤ 14 → Sz 2000 (m, 1) := fun m h0 h14 => sz_one (n := 23) (by omega)
  refine ⟨⟨sz_one zt, sz_one z2, sz_one z1, ?_, ?_, zl _ r0 (by omega)⟩, ?_, fun m hm => ?_⟩
  · show Sz 2000 (lessF (off l.other, 1) (off l.one, 1))
    rw [less_one]
    exact sz_one zd
  · rw [et]
    exact sz_one zz
  · rw [et, below_one]
    refine decide_eq_false ?_
    obtain ⟨v, ev, hv⟩ := direct_fst (rd := rd) hl
    have := F _ _ _ ev
    omega
  · obtain ⟨a, b⟩ := rm m hm
    refine ⟨zl m (by omega) (by omega), ?_⟩
    rw [et, below_one]
    refine decide_eq_false ?_
    obtain ⟨v, ev, hv⟩ := direct_snd (rd := rd) hl hm
    have := F _ _ _ ev
    omega
theorem ediv_sz {a b : Int} (hb : 0 < b) : (a / b).natAbs ≤ a.natAbs := by
  by_cases c : 0 ≤ a
  · have h1 := Int.ediv_le_self b c
    have h2 := Int.ediv_nonneg c (Int.le_of_lt hb)
    omega
  · have h1 : a ≤ a / b := (Int.le_ediv_iff_mul_le hb).mpr (by
      have : a * b ≤ a * 1 := Int.mul_le_mul_of_nonpos_left (by omega) (by omega)
      omega)
    have h2 : a / b < 1 := (Int.ediv_lt_iff_lt_mul hb).mpr (by omega)
    omega
theorem low_natAbs {a b : Int} (h : 0 < b) : (lowF a b).1.natAbs ≤ a.natAbs ∧ (lowF a b).2.natAbs ≤ b.natAbs := by
  obtain ⟨g, hg, e1, e2, _⟩ := low_parts (a := a) h
  constructor
  · have : a.natAbs = g.natAbs * (lowF a b).1.natAbs := by rw [← Int.natAbs_mul, ← e1]
    have := Nat.le_mul_of_pos_left (lowF a b).1.natAbs (show 0 < g.natAbs by omega)
    omega
  · have : b.natAbs = g.natAbs * (lowF a b).2.natAbs := by rw [← Int.natAbs_mul, ← e2]
    have := Nat.le_mul_of_pos_left (lowF a b).2.natAbs (show 0 < g.natAbs by omega)
    omega
theorem brk_mem {W : Wd} {tn : Nat → Int} {tq fr : Int} {off : Nat → Int} {i j : Nat} (B : Brk W tn tq fr off i j) : i ∈ W.hs ∧ j ∈ W.hs ∧ i ≠ j := by
  cases B with
  | far _ k _ _ => exact mem_pairs.mp k
  | loose k _ _ _ => exact mem_pairs.mp k
theorem brk_sz {W : Wd} (ok : WdOk W) {tn : Nat → Int} {tq fr : Int} (tk : TkOk W.hs tn tq) (zf : fr.natAbs < 2 ^ 400) {off : Nat → Int} {i j : Nat} (B : Brk W tn tq fr off i j) : OffBd W.hs off 900 := by
  cases B with
  | far ha k mx f =>
    intro h hh
    exact pw (off_sz ok (mem_pairs.mp k).1 f h hh)
  | @loose up lo i j z k n f hz =>
    obtain ⟨ki, kj, _⟩ := mem_pairs.mp k
    intro h hh
    have oz := off_sz ok ki f
    have a1 := sub_sz (oz j kj) (oz i ki)
    have a2 := L2.wide_lt a1 tk.2.1
    have a3 := sub_sz (tk.2.2 j kj) (tk.2.2 i ki)
    have a4 := sub_sz a2 (pw a3 (by decide : 401 ≤ 404 + 1 + 400))
    have a5 := L2.wide_lt zf tk.2.1
    have a6 := sub_sz (pw a5 (by decide : 400 + 400 ≤ 404 + 1 + 400 + 1)) a4
    have b1 := (low_natAbs (a := fr * tq - ((offF W i up lo j - offF W i up lo i) * tq - (tn j - tn i))) tk.1).1
    have b2 := low_pos (a := fr * tq - ((offF W i up lo j - offF W i up lo i) * tq - (tn j - tn i))) tk.1
    rw [← hz] at b1 b2
    have b3 := ediv_sz (a := z.1) b2
    have b4 := oz h hh
    have e1 : (2 : Nat) ^ 900 = 2 ^ (404 + 1 + 400 + 1 + 1) * 2 ^ 93 := by rw [← Nat.pow_add]
    have e2 : (2 : Nat) ^ (404 + 1 + 400 + 1 + 1) = 2 ^ 404 * 2 ^ 403 := by rw [← Nat.pow_add]
    have p93 : (8 : Nat) ≤ 2 ^ 93 := by decide
    have p403 : (2 : Nat) ≤ 2 ^ 403 := Nat.pow_le_pow_right (n := 2) (by decide) (by decide : 1 ≤ 403)
    show (offF W i up lo h + if h ∈ frees W i then max 0 (z.1 / z.2 + 1) else 0).natAbs < 2 ^ 900
    have c0 : 0 < (2 : Nat) ^ 404 := Nat.two_pow_pos _
    have c1 : (2 : Nat) ^ 404 * 2 ≤ 2 ^ (404 + 1 + 400 + 1 + 1) := by rw [e2]; exact Nat.mul_le_mul_left _ p403
    have c2 : 2 ^ (404 + 1 + 400 + 1 + 1) * 8 ≤ (2 : Nat) ^ 900 := by rw [e1]; exact Nat.mul_le_mul_left _ p93
    generalize (2 : Nat) ^ 900 = X at c2 ⊢
    generalize (2 : Nat) ^ (404 + 1 + 400 + 1 + 1) = Y at a6 c1 c2
    generalize (2 : Nat) ^ 404 = Z at b4 c0 c1
    split <;> omega
/-! ### how far apart -/
theorem below_lows {a b p q : Int} (hp : 0 < p) (hq : 0 < q) : belowF (lowF a p) (lowF b q) = decide (a * q < b * p) := by
  obtain ⟨g, hg, a1, p1, _⟩ := low_parts (a := a) hp
  obtain ⟨k, hk, b1, q1, _⟩ := low_parts (a := b) hq
  unfold belowF
  generalize lowF a p = x at a1 p1
  generalize lowF b q = y at b1 q1
  have e : a * q < b * p ↔ x.1 * y.2 < y.1 * x.2 := by
    have e1 : a * q = (g * k) * (x.1 * y.2) := by rw [a1, q1]; ac_rfl
    have e2 : b * p = (g * k) * (y.1 * x.2) := by rw [b1, p1]; ac_rfl
    rw [e1, e2]
    exact Int.mul_lt_mul_left (Int.mul_pos hg hk)
  by_cases c : x.1 * y.2 < y.1 * x.2
  · rw [decide_eq_true c, decide_eq_true (e.mpr c)]
  · rw [decide_eq_false c, decide_eq_false fun z => c (e.mp z)]
theorem one_low {v q : Int} (h : 0 < q) : ((v, 1) : Int × Int) = lowF (v * q) q := by
  have := low_mul (a := v) (b := 1) (k := q) (by decide) h
  rw [Int.one_mul] at this
  rw [this, low_one]
/-- the law's distance of two corrected clocks -/
theorem ap_low {on tn : Nat → Int} {tq : Int} (hq : 0 < tq) (i j : Nat) : apF (on i, 1) (frT tn tq i) (on j, 1) (frT tn tq j) = lowF (((on i * tq - tn i) - (on j * tq - tn j)).natAbs : Int) tq := by
  unfold apF frT
  rw [one_low (v := on i) hq, one_low (v := on j) hq, less_low hq, less_low hq, less_low hq, abs_low hq]
  congr 1
  split <;> omega
/-! ### means round rings -/
theorem sum_lin (F : Nat × Nat → Int) (t : Nat → Int) (q : Int) : ∀ L : List (Nat × Nat), (L.map fun p => F p * q - (t p.2 - t p.1)).sum = (L.map F).sum * q - (L.map fun p => t p.2 - t p.1).sum
  | [] => by simp
  | p :: L => by
    have ih := sum_lin F t q L
    simp only [List.map_cons, List.sum_cons, ih, Int.add_mul]
    omega
theorem sum_zip (t : Nat → Int) : ∀ (a b : List Nat), a.length = b.length → ((a.zip b).map fun p => t p.2 - t p.1).sum = (b.map t).sum - (a.map t).sum
  | [], [], _ => by simp
  | x :: a, y :: b, h => by
    have ih := sum_zip t a b (by simpa using h)
    simp only [List.zip_cons_cons, List.map_cons, List.sum_cons, ih]
    omega
theorem rot_len (r : List Nat) : r.length = (r.drop 1 ++ r.take 1).length := by
  rw [List.length_append, List.length_drop, List.length_take]
  omega
theorem tele (t : Nat → Int) (r : List Nat) : ((r.zip (r.drop 1 ++ r.take 1)).map fun p => t p.2 - t p.1).sum = 0 := by
  rw [sum_zip t r _ (rot_len r)]
  cases r with
  | nil => rfl
  | cons a l =>
    show ((l ++ [a]).map t).sum - ((a :: l).map t).sum = 0
    rw [List.map_append, List.sum_append]
    simp
    omega
theorem sum_le (g : Nat × Nat → Int) (S : Int) : ∀ L : List (Nat × Nat), (∀ p ∈ L, g p ≤ S) → (L.map g).sum ≤ S * (L.length : Nat)
  | [], _ => by simp
  | p :: L, h => by
    have ih := sum_le g S L fun x hx => h x (List.mem_cons_of_mem _ hx)
    have h1 := h p List.mem_cons_self
    rw [List.map_cons, List.sum_cons, List.length_cons]
    have e : S * ((L.length + 1 : Nat) : Int) = S * (L.length : Nat) + S := by
      rw [Int.natCast_add, Int.mul_add]
      simp
    omega
theorem rsum_eq {f : Dm} {r : List Nat} {v : Int} (h : rsum f r = some v) : none ∉ rsteps f r ∧ v = ((r.zip (r.drop 1 ++ r.take 1)).map fun p => (f p.1 p.2).getD 0).sum := by
  unfold rsum at h
  split at h
  · cases h
  · rename_i n
    refine ⟨n, ?_⟩
    cases h
    unfold rsteps
    rw [List.map_map]
    rfl
/-- some two hands are as far apart as the mean round a ring -/
theorem avg_ring {W : Wd} {tn : Nat → Int} {tq S : Int} {r : List Nat} {v : Int} (hr : r ∈ rings W.hs) (hv : rsum W.far r = some v) (mx : ∀ l ∈ pairs W.hs, slk W tn tq l.1 l.2 ≤ S) : v * tq ≤ S * (r.length : Nat) := by
  obtain ⟨h2, _, nd, hm⟩ := ring_row hr
  obtain ⟨_, e⟩ := rsum_eq hv
  have h1 := sum_le (fun p => slk W tn tq p.1 p.2) S (r.zip (r.drop 1 ++ r.take 1)) fun p hp => mx p (mem_pairs.mpr ⟨(zip_rot_mem hm hp).1, (zip_rot_mem hm hp).2, zip_rot_ne nd h2 hp⟩)
  have h3 := sum_lin (fun p => (W.far p.1 p.2).getD 0) tn tq (r.zip (r.drop 1 ++ r.take 1))
  rw [tele, ← e] at h3
  have e2 : (r.zip (r.drop 1 ++ r.take 1)).length = r.length := by rw [List.length_zip, ← rot_len]; omega
  rw [e2] at h1
  have h4 : ((r.zip (r.drop 1 ++ r.take 1)).map fun p => slk W tn tq p.1 p.2).sum = v * tq - 0 := h3
  omega
/-- where all far sums are, the answer is as far as the slack -/
theorem brk_far {W : Wd} {tn : Nat → Int} {tq : Int} {i j : Nat} {up : Int} {lo : Nat → Int} (ha : AllSome W) (k : (i, j) ∈ pairs W.hs) : (offF W i up lo i * tq - tn i) - (offF W i up lo j * tq - tn j) = -(slk W tn tq i j) := by
  obtain ⟨v, e⟩ := ha _ k
  have e : W.far i j = some v := e
  have n : j ≠ i := fun z => (mem_pairs.mp k).2.2 z.symm
  have ei : offF W i up lo i = 0 := by unfold offF off0; rw [if_pos rfl]
  have ej : offF W i up lo j = v := by unfold offF off0; rw [if_neg n, e]
  rw [ei, ej]
  unfold slk
  rw [e]
  simp only [Option.getD_some, Int.zero_mul]
  omega
theorem brk_loose {W : Wd} {tn : Nat → Int} {tq fr : Int} (hq : 0 < tq) {i j : Nat} {up : Int} {lo : Nat → Int} {z : Int × Int} (k : (i, j) ∈ pairs W.hs) (n : W.far i j = none) (hz : z = lowF (fr * tq - ((offF W i up lo j - offF W i up lo i) * tq - (tn j - tn i))) tq) {off : Nat → Int} (ho : off = fun h => offF W i up lo h + if h ∈ frees W i then max 0 (z.1 / z.2 + 1) else 0) :
    fr * tq ≤ (((off i * tq - tn i) - (off j * tq - tn j)).natAbs : Int) := by
  obtain ⟨ki, kj, nij⟩ := mem_pairs.mp k
  have oi : off0 W i i = some 0 := by unfold off0; rw [if_pos rfl]
  have oj : off0 W i j = none := by unfold off0; rw [if_neg nij.symm]; exact n
  have fi : i ∉ frees W i := fun z => by rw [mem_frees, oi] at z; cases z.2
  have fj : j ∈ frees W i := mem_frees.mpr ⟨kj, oj⟩
  have ei : off i = offF W i up lo i := by rw [ho]; show _ + (if _ then _ else _) = _; rw [if_neg fi, Int.add_zero]
  have ej : off j = offF W i up lo j + max 0 (z.1 / z.2 + 1) := by rw [ho]; show _ + (if _ then _ else _) = _; rw [if_pos fj]
  rw [ei, ej]
  generalize hD : offF W i up lo j - offF W i up lo i = D at hz
  generalize hA : D * tq - (tn j - tn i) = A at hz
  have hzp : 0 < z.2 := by rw [hz]; exact low_pos hq
  have hzr : z.1 * tq = (fr * tq - A) * z.2 := by rw [hz]; exact low_rep hq
  have hm1 : z.1 / z.2 + 1 ≤ max 0 (z.1 / z.2 + 1) := Int.le_max_right _ _
  generalize max 0 (z.1 / z.2 + 1) = m at hm1 ⊢
  have hm : z.1 < m * z.2 := Int.lt_of_lt_of_le (Int.lt_ediv_add_one_mul_self z.1 hzp) (Int.mul_le_mul_of_nonneg_right hm1 (Int.le_of_lt hzp))
  have h2 : fr * tq - A < m * tq := by
    have h1 : z.1 * tq < m * z.2 * tq := Int.mul_lt_mul_of_pos_right hm hq
    rw [hzr] at h1
    have e : m * z.2 * tq = (m * tq) * z.2 := by ac_rfl
    rw [e] at h1
    exact Int.lt_of_mul_lt_mul_right h1 (Int.le_of_lt hzp)
  have e1 : (offF W i up lo j + m) * tq = offF W i up lo j * tq + m * tq := Int.add_mul _ _ _
  have e2 : D * tq = offF W i up lo j * tq - offF W i up lo i * tq := by rw [← hD, Int.sub_mul]
  rw [e1]
  omega
end
end K80

set_option maxHeartbeats 4000000
/-! the law's check holds of what breaks clocks -/
namespace K80
section
variable {hs : List Nat} {ks ks' : List (Nat × Nat)} {rd : Nat × Nat → Int × Option Int} {ls : List Lt} {off0' : Nat → Int}
/-- the bound that the law takes: the best ring's mean, or far itself -/
def BdFor (W : Wd) (fr : Int) (b : Int × Int) : Prop := (AllSome W ∧ ∃ r v, r ∈ rings W.hs ∧ rsum W.far r = some v ∧ b = lowF v r.length) ∨ (¬ AllSome W ∧ b = (fr, 1))
theorem natAbs_sub_sz {a b c d : Int} {n : Nat} (h1 : a.natAbs < 2 ^ n) (h2 : b.natAbs < 2 ^ n) (h3 : c.natAbs < 2 ^ n) (h4 : d.natAbs < 2 ^ n) : ((a - b) - (c - d)).natAbs < 2 ^ (n + 2) := by
  have e : (2 : Nat) ^ (n + 2) = 2 ^ n * 4 := by rw [Nat.pow_add]
  rw [e]
  omega
theorem ap_sz {off tn : Nat → Int} {tq : Int} {hs : List Nat} (zo : OffBd hs off 900) (tk : TkOk hs tn tq) {i j : Nat} (hi : i ∈ hs) (hj : j ∈ hs) :
    Sz 2000 (lessF (off i, 1) (frT tn tq i)) ∧ Sz 2000 (lessF (off j, 1) (frT tn tq j)) ∧ Sz 2000 (apF (off i, 1) (frT tn tq i) (off j, 1) (frT tn tq j)) := by
  have one : ∀ {i}, i ∈ hs → (off i * tq - tn i).natAbs < 2 ^ (900 + 400 + 1) := fun hi => sub_sz (L2.wide_lt (zo _ hi) tk.2.1) (pw (tk.2.2 _ hi))
  refine ⟨?_, ?_, ?_⟩
  · rw [one_low (v := off i) tk.1, less_low tk.1]
    exact low_sz2 tk.1 (one hi) (pw tk.2.1) (by decide)
  · rw [one_low (v := off j) tk.1, less_low tk.1]
    exact low_sz2 tk.1 (one hj) (pw tk.2.1) (by decide)
  · rw [ap_low tk.1]
    refine low_sz2 (n := 900 + 400 + 1 + 1) tk.1 ?_ (pw tk.2.1) (by decide)
    rw [Int.natAbs_natCast]
    exact sub_sz (one hi) (one hj)
theorem brk_below {W : Wd} {tn : Nat → Int} {tq fr : Int} (tk : TkOk W.hs tn tq) {off : Nat → Int} {i j : Nat} (B : Brk W tn tq fr off i j) {b : Int × Int} (hb : BdFor W fr b) :
    belowF (apF (off i, 1) (frT tn tq i) (off j, 1) (frT tn tq j)) b = false := by
  rw [ap_low tk.1]
  cases B with
  | @far up lo i j ha k mx f =>
    rcases hb with ⟨_, r, v, hr, hv, rfl⟩ | ⟨n, _⟩
    · have hl : (0 : Int) < (r.length : Nat) := by have := (ring_row hr).1; omega
      rw [below_lows tk.1 hl]
      refine decide_eq_false ?_
      have h1 := avg_ring hr hv mx
      have h2 := brk_far (up := up) (lo := lo) (tn := tn) (tq := tq) ha k
      rw [h2]
      have h3 : slk W tn tq i j ≤ (((-(slk W tn tq i j)).natAbs : Nat) : Int) := by omega
      have h4 := Int.mul_le_mul_of_nonneg_right h3 (Int.le_of_lt hl)
      omega
    · exact absurd ha n
  | loose k n f hz =>
    rcases hb with ⟨ha, _⟩ | ⟨_, rfl⟩
    · obtain ⟨v, e⟩ := ha _ k
      rw [show W.far i j = some v from e] at n
      cases n
    · have h1 := brk_loose tk.1 k n hz rfl
      rw [show ((fr, 1) : Int × Int) = lowF fr 1 from (low_one fr).symm, below_lows tk.1 (by decide)]
      refine decide_eq_false fun c => ?_
      rw [Int.mul_one] at c
      exact absurd c (Int.not_lt.mpr h1)
theorem bd_sz {W : Wd} (ok : WdOk W) {fr : Int} (zf : fr.natAbs < 2 ^ 400) {b : Int × Int} (hb : BdFor W fr b) : Sz 2000 b := by
  rcases hb with ⟨ha, r, v, hr, hv, rfl⟩ | ⟨_, rfl⟩
  · obtain ⟨l2, l5, _⟩ := ring_row hr
    have h5 := ok.h5
    have hz := rsum_sz ha ok.fz ok.h5 hr
    rw [hv] at hz
    refine low_sz2 (n := 403) (by omega) hz ?_ (by decide)
    rw [Int.natAbs_natCast]
    exact Nat.lt_of_lt_of_le (show r.length < 2 ^ 3 by omega) (Nat.pow_le_pow_right (by decide) (by decide))
  · exact sz_one (n := 400) zf
/-! ### the law's corrections are readings -/
theorem cor1_bd : ∀ (ls : List Lt) (fr : Nat → Int × Int) (B : Int), (∀ l ∈ ls, -2000000 ≤ l.sent ∧ l.sent ≤ 2000000 ∧ -2000000 ≤ l.heard ∧ l.heard ≤ 2000000) → (∀ h, (fr h).2 = 1 ∧ -B ≤ (fr h).1 ∧ (fr h).1 ≤ B) → 0 ≤ B →
    ∀ h, ((ls.foldl (fun (fr : Nat → Int × Int) (l : Lt) => fun h => if h = l.other then ((fr l.one).1 + l.heard - l.sent, 1) else fr h) fr) h).2 = 1 ∧ -(B + 4000000 * (ls.length : Nat)) ≤ ((ls.foldl (fun (fr : Nat → Int × Int) (l : Lt) => fun h => if h = l.other then ((fr l.one).1 + l.heard - l.sent, 1) else fr h) fr) h).1 ∧ ((ls.foldl (fun (fr : Nat → Int × Int) (l : Lt) => fun h => if h = l.other then ((fr l.one).1 + l.heard - l.sent, 1) else fr h) fr) h).1 ≤ B + 4000000 * (ls.length : Nat)
  | [], fr, B, _, hf, _, h => by
    have := hf h
    simp
    omega
  | l :: ls, fr, B, hz, hf, hB, h => by
    have z := hz l List.mem_cons_self
    have ih := cor1_bd ls (fun h => if h = l.other then ((fr l.one).1 + l.heard - l.sent, 1) else fr h) (B + 4000000) (fun x hx => hz x (List.mem_cons_of_mem _ hx)) (fun h => by
      by_cases c : h = l.other
      · have := hf l.one
        rw [if_pos c]
        exact ⟨rfl, by dsimp only; omega, by dsimp only; omega⟩
      · have := hf h
        rw [if_neg c]
        exact ⟨this.1, by omega, by omega⟩) (by omega) h
    rw [List.foldl_cons, List.length_cons]
    refine ⟨ih.1, ?_, ?_⟩ <;> omega
def NGood (way : Int) (x : Int × Int) : Prop := x.2 = way - 1 ∧ -11 ≤ x.1 ∧ x.1 ≤ 11
theorem corN_bd (way : Int) (h : Nat) : ∀ (hs : List Nat) (s0 : Int × (Nat → Int × Int)), (NGood way (s0.2 h) ∨ h ∈ hs) → NGood way ((hs.foldl (fun (s : Int × (Nat → Int × Int)) h => let m := (s.1 * 37 + ordF h) % 100003; (m, fun x => if x = h then (m % 23 - 11, way - 1) else s.2 x)) s0).2 h)
  | [], s0, k => k.resolve_right (by simp)
  | a :: l, s0, k => by
    rw [List.foldl_cons]
    refine corN_bd way h l _ ?_
    by_cases c : h = a
    · refine .inl ?_
      show NGood way (if h = a then (((s0.1 * 37 + ordF a) % 100003) % 23 - 11, way - 1) else s0.2 h)
      rw [if_pos c]
      have m1 := Int.emod_nonneg ((s0.1 * 37 + ordF a) % 100003) (by decide : (23 : Int) ≠ 0)
      have m2 := Int.emod_lt_of_pos ((s0.1 * 37 + ordF a) % 100003) (by decide : (0 : Int) < 23)
      exact ⟨rfl, by dsimp only; omega, by dsimp only; omega⟩
    · rcases k with k | k
      · refine .inl ?_
        show NGood way (if h = a then (((s0.1 * 37 + ordF a) % 100003) % 23 - 11, way - 1) else s0.2 h)
        rw [if_neg c]
        exact k
      · rcases List.mem_cons.mp k with z | z
        · exact absurd z c
        · exact .inr z
theorem corr_ok (D : Drawn hs ks rd ls off0') {way seed : Int} (w0 : 0 ≤ way) (w6 : way < 6) : ∃ tn tq, TkOk hs tn tq ∧ ∀ h ∈ hs, Sz 2000 (corrF way seed ⟨hs, ks', rd, ls⟩ h) ∧ lowF (corrF way seed ⟨hs, ks', rd, ls⟩ h).1 (corrF way seed ⟨hs, ks', rd, ls⟩ h).2 = frT tn tq h := by
  have key : ∃ q : Int, 0 < q ∧ q < 100 ∧ ∀ h ∈ hs, (corrF way seed ⟨hs, ks', rd, ls⟩ h).2 = q ∧ -100000000 ≤ (corrF way seed ⟨hs, ks', rd, ls⟩ h).1 ∧ (corrF way seed ⟨hs, ks', rd, ls⟩ h).1 ≤ 100000000 := by
    unfold corrF
    by_cases c1 : way = 1
    · rw [if_pos c1]
      refine ⟨1, by decide, by decide, fun h _ => ?_⟩
      have := cor1_bd ls (fun _ => (0, 1)) 0 (fun l hl => (D.lt l hl).2.2.2.2) (fun _ => ⟨rfl, by decide, by decide⟩) (by decide) h
      have lz := D.lz
      have t1 : -(0 + 4000000 * ((ls.length : Nat) : Int)) ≤ (cor1 ⟨hs, ks', rd, ls⟩ h).1 := this.2.1
      have t2 : (cor1 ⟨hs, ks', rd, ls⟩ h).1 ≤ 0 + 4000000 * ((ls.length : Nat) : Int) := this.2.2
      exact ⟨this.1, by omega, by omega⟩
    · rw [if_neg c1]
      by_cases c2 : 1 < way
      · rw [if_pos c2]
        refine ⟨way - 1, by omega, by omega, fun h hh => ?_⟩
        have t : NGood way ((corN way (num0 seed ⟨hs, ks', rd, ls⟩) hs).2 h) := corN_bd way h hs (num0 seed ⟨hs, ks', rd, ls⟩, fun _ => (0, 1)) (.inr hh)
        obtain ⟨t1, t2, t3⟩ := t
        exact ⟨t1, by show _ ≤ ((corN way (num0 seed ⟨hs, ks', rd, ls⟩) hs).2 h).1; omega, by show ((corN way (num0 seed ⟨hs, ks', rd, ls⟩) hs).2 h).1 ≤ _; omega⟩
      · rw [if_neg c2]
        exact ⟨1, by decide, by decide, fun h _ => ⟨rfl, by decide, by decide⟩⟩
  obtain ⟨q, q0, q1, hk⟩ := key
  have p40 : (2 : Nat) ^ 40 = 1099511627776 := by decide
  refine ⟨fun h => (corrF way seed ⟨hs, ks', rd, ls⟩ h).1, q, ⟨q0, pw (a := 40) (by omega), fun h hh => pw (a := 40) (by have := hk h hh; show ((corrF way seed ⟨hs, ks', rd, ls⟩ h).1).natAbs < _; omega)⟩, fun h hh => ?_⟩
  obtain ⟨e, b1, b2⟩ := hk h hh
  refine ⟨⟨pw (a := 40) (by omega), pw (a := 40) (by rw [e]; omega), by rw [e]; exact q0⟩, ?_⟩
  show lowF _ _ = lowF _ q
  rw [e]
end
end K80

set_option maxHeartbeats 4000000
/-! the best ring, and the package's own correction -/
namespace K80
/-! ### closed sums round rings -/
def clos (G : Nat → Nat → Int) (r : List Nat) : Int := ((r.zip (r.drop 1 ++ r.take 1)).map fun p => G p.1 p.2).sum
theorem zip_end (c : Nat) : ∀ (a : Nat) (t : List Nat), (a :: t).zip (t ++ [c]) = (a :: t).zip t ++ [((a :: t).getLastD 0, c)]
  | a, [] => rfl
  | a, b :: t => by
    have ih := zip_end c b t
    have e : (a :: b :: t).getLastD 0 = (b :: t).getLastD 0 := by simp [List.getLastD]
    rw [e]
    show (a, b) :: (b :: t).zip (t ++ [c]) = (a, b) :: ((b :: t).zip t ++ [((b :: t).getLastD 0, c)])
    rw [ih]
theorem clos_cons (G : Nat → Nat → Int) (a : Nat) (t : List Nat) : clos G (a :: t) = (((a :: t).zip t).map fun p => G p.1 p.2).sum + G ((a :: t).getLastD 0) a := by
  unfold clos
  show (((a :: t).zip (t ++ [a])).map fun p => G p.1 p.2).sum = _
  rw [zip_end, List.map_append, List.sum_append]
  simp
theorem zip_app {α : Type} : ∀ (a b c d : List α), a.length = b.length → (a ++ c).zip (b ++ d) = a.zip b ++ c.zip d
  | [], [], _, _, _ => rfl
  | x :: a, y :: b, c, d, h => by
    show (x, y) :: (a ++ c).zip (b ++ d) = (x, y) :: (a.zip b ++ c.zip d)
    rw [zip_app a b c d (by simpa using h)]
theorem clos_rot1 (G : Nat → Nat → Int) (a : Nat) (t : List Nat) : clos G (a :: t) = clos G (t ++ [a]) := by
  cases t with
  | nil => rfl
  | cons b u =>
    have h1 : clos G (a :: b :: u) = G a b + (((b :: u).zip (u ++ [a])).map fun p => G p.1 p.2).sum := by
      unfold clos
      show (((a, b) :: (b :: u).zip (u ++ [a])).map fun p => G p.1 p.2).sum = _
      rw [List.map_cons, List.sum_cons]
    have h2 : clos G (b :: u ++ [a]) = (((b :: u).zip (u ++ [a])).map fun p => G p.1 p.2).sum + G a b := by
      unfold clos
      show ((((b :: u) ++ [a]).zip ((u ++ [a]) ++ [b])).map fun p => G p.1 p.2).sum = _
      rw [zip_app (b :: u) (u ++ [a]) [a] [b] (by simp), List.map_append, List.sum_append]
      simp
    omega
theorem clos_rot (G : Nat → Nat → Int) : ∀ (p q : List Nat), clos G (p ++ q) = clos G (q ++ p)
  | [], q => by rw [List.append_nil]; rfl
  | a :: p, q => by
    have ih := clos_rot G p (q ++ [a])
    have h1 := clos_rot1 G a (p ++ q)
    rw [show a :: p ++ q = a :: (p ++ q) from rfl, h1, List.append_assoc, ih, List.append_assoc]
    rfl
/-- a row's least, in front -/
theorem least_split : ∀ (r : List Nat), r ≠ [] → ∃ p m q, r = p ++ m :: q ∧ ∀ x ∈ r, m ≤ x
  | [a], _ => ⟨[], a, [], rfl, fun x hx => by simp at hx; omega⟩
  | a :: b :: t, _ => by
    obtain ⟨p, m, q, e, h⟩ := least_split (b :: t) (by simp)
    rcases Nat.lt_or_ge m a with c | c
    · refine ⟨a :: p, m, q, by rw [e]; rfl, fun x hx => ?_⟩
      rcases List.mem_cons.mp hx with z | z
      · omega
      · exact h x z
    · refine ⟨[], a, b :: t, rfl, fun x hx => ?_⟩
      rcases List.mem_cons.mp hx with z | z
      · omega
      · have := h x z
        omega
theorem lvl_compl {hs : List Nat} : ∀ (k : Nat) (r : List Nat), r.length = k + 1 → r.Nodup → (∀ x ∈ r, x ∈ hs) → (∀ x ∈ r, x = r.headD 0 ∨ r.headD 0 < x) → r ∈ lvl hs k
  | 0, r, hl, _, hm, _ => by
    match r, hl with
    | [a], _ => exact List.mem_map.mpr ⟨a, hm a (by simp), rfl⟩
  | k + 1, r, hl, nd, hm, hh => by
    obtain ⟨r0, x, rfl⟩ : ∃ r0 x, r = r0 ++ [x] := by
      rcases List.eq_nil_or_concat r with e | ⟨r0, x, e⟩
      · subst e; simp at hl
      · exact ⟨r0, x, by rw [e, List.concat_eq_append]⟩
    have hl0 : r0.length = k + 1 := by simp at hl; omega
    have nd0 := List.nodup_append.mp nd
    have hd : (r0 ++ [x]).headD 0 = r0.headD 0 := by
      cases r0 with
      | nil => simp at hl0
      | cons a t => rfl
    rw [hd] at hh
    have nx : x ∉ r0 := fun z => nd0.2.2 x z x (by simp) rfl
    have ih := lvl_compl k r0 hl0 nd0.1 (fun y hy => hm y (List.mem_append_left _ hy)) fun y hy => hh y (List.mem_append_left _ hy)
    refine List.mem_flatMap.mpr ⟨r0, ih, List.mem_map.mpr ⟨x, List.mem_filter.mpr ⟨hm x (by simp), ?_⟩, rfl⟩⟩
    unfold rowP
    have h1 : r0.headD 0 < x := by
      rcases hh x (by simp) with z | z
      · exfalso
        apply nx
        cases r0 with
        | nil => simp at hl0
        | cons a t => rw [z]; exact List.mem_cons_self
      · exact z
    rw [decide_eq_true h1, decide_eq_false nx]
    rfl
theorem rings_compl {hs : List Nat} {r : List Nat} (h2 : 2 ≤ r.length) (nd : r.Nodup) (hm : ∀ x ∈ r, x ∈ hs) (hh : ∀ x ∈ r, x = r.headD 0 ∨ r.headD 0 < x) : r ∈ rings hs := by
  have h5 := nodup_le nd hm
  refine List.mem_flatMap.mpr ⟨r.length - 2, List.mem_range.mpr (by omega), ?_⟩
  refine lvl_compl _ r (by omega) nd hm hh
/-- any ring, begun by its least, is one of the rings -/
theorem ring_rot {hs : List Nat} (G : Nat → Nat → Int) {r : List Nat} (h2 : 2 ≤ r.length) (nd : r.Nodup) (hm : ∀ x ∈ r, x ∈ hs) : ∃ r0 ∈ rings hs, r0.length = r.length ∧ clos G r0 = clos G r := by
  have ne : r ≠ [] := fun z => by rw [z] at h2; simp at h2
  obtain ⟨p, m, q, rfl, h⟩ := least_split r ne
  refine ⟨m :: q ++ p, rings_compl ?_ ?_ ?_ ?_, ?_, (clos_rot G p (m :: q)).symm⟩
  · simp at h2 ⊢; omega
  · have := List.perm_append_comm (l₁ := p) (l₂ := m :: q)
    exact this.nodup_iff.mp nd
  · intro x hx
    exact hm x ((List.perm_append_comm (l₁ := p) (l₂ := m :: q)).mem_iff.mpr hx)
  · intro x hx
    show x = m ∨ m < x
    have := h x ((List.perm_append_comm (l₁ := p) (l₂ := m :: q)).mem_iff.mpr hx)
    omega
  · simp; omega
/-! ### the best ring -/
theorem ratio_trans {a b c la lb lc : Int} (h1 : a * lb ≤ b * la) (h2 : b * lc ≤ c * lb) (pa : 0 ≤ la) (pb : 0 < lb) (pc : 0 ≤ lc) : a * lc ≤ c * la := by
  have e1 : a * lb * lc ≤ b * la * lc := Int.mul_le_mul_of_nonneg_right h1 pc
  have e2 : b * lc * la ≤ c * lb * la := Int.mul_le_mul_of_nonneg_right h2 pa
  have e3 : b * la * lc = b * lc * la := by ac_rfl
  have e4 : a * lb * lc = (a * lc) * lb := by ac_rfl
  have e5 : c * lb * la = (c * la) * lb := by ac_rfl
  exact Int.le_of_mul_le_mul_right (by omega) pb
def RLe (f : Dm) (r s : List Nat) : Prop := (rsum f r).getD 0 * (s.length : Nat) ≤ (rsum f s).getD 0 * (r.length : Nat)
theorem best_max {f : Dm} : ∀ (l : List (List Nat)) (b : Option (List Nat)) {s : List Nat}, (∀ r ∈ l, 0 < r.length) → (∀ r, b = some r → 0 < r.length) → l.foldl (bestStep f) b = some s → (∀ r ∈ l, RLe f r s) ∧ ∀ r, b = some r → RLe f r s
  | [], b, s, _, _, h => ⟨fun r hr => by simp at hr, fun r hr => by
    have h : b = some s := h
    rw [h] at hr
    cases hr
    exact Int.le_refl _⟩
  | x :: l, b, s, hl, hb, h => by
    have px := hl x List.mem_cons_self
    have hl' := fun r hr => hl r (List.mem_cons_of_mem _ hr)
    rw [List.foldl_cons] at h
    cases b with
    | none =>
      obtain ⟨h1, h2⟩ := best_max l _ hl' (fun r hr => by cases hr; exact px) h
      refine ⟨fun r hr => ?_, fun r hr => by cases hr⟩
      rcases List.mem_cons.mp hr with z | z
      · rw [z]; exact h2 x rfl
      · exact h1 r z
    | some b =>
      have pb := hb b rfl
      have h : l.foldl (bestStep f) (if (rsum f b).getD 0 * (x.length : Int) < (rsum f x).getD 0 * (b.length : Int) then some x else some b) = some s := h
      by_cases c : (rsum f b).getD 0 * (x.length : Int) < (rsum f x).getD 0 * (b.length : Int)
      · rw [if_pos c] at h
        obtain ⟨h1, h2⟩ := best_max l _ hl' (fun r hr => by cases hr; exact px) h
        have hx := h2 x rfl
        refine ⟨fun r hr => ?_, fun r hr => ?_⟩
        · rcases List.mem_cons.mp hr with z | z
          · rw [z]; exact hx
          · exact h1 r z
        · cases hr
          exact ratio_trans (Int.le_of_lt c) hx (by omega) (by omega) (by omega)
      · rw [if_neg c] at h
        obtain ⟨h1, h2⟩ := best_max l _ hl' (fun r hr => by cases hr; exact pb) h
        have hb2 := h2 b rfl
        refine ⟨fun r hr => ?_, fun r hr => by cases hr; exact hb2⟩
        rcases List.mem_cons.mp hr with z | z
        · rw [z]
          exact ratio_trans (by omega) hb2 (by omega) (by omega) (by omega)
        · exact h1 r z
end K80

set_option maxHeartbeats 4000000
/-! the package's own correction keeps the best bound -/
namespace K80
section
variable {hs : List Nat} {ks ks' : List (Nat × Nat)} {rd : Nat × Nat → Int × Option Int} {ls : List Lt} {off0' : Nat → Int}
/-- edges that tell how much is lacking to the bound -/
def lack (W : Wd) (z : Int × Int) : Dm := fun a b => if a = b then none else match W.far a b with
  | none => none
  | some x => some (z.1 - x * z.2)
theorem lack_some {W : Wd} {z : Int × Int} {a b : Nat} {v : Int} (h : lack W z a b = some v) : a ≠ b ∧ ∃ x, W.far a b = some x ∧ v = z.1 - x * z.2 := by
  unfold lack at h
  by_cases c : a = b
  · rw [if_pos c] at h; cases h
  · rw [if_neg c] at h
    cases e : W.far a b with
    | none => rw [e] at h; cases h
    | some x =>
      rw [e] at h
      cases h
      exact ⟨c, x, rfl, rfl⟩
theorem lack_of {W : Wd} {z : Int × Int} {a b : Nat} {x : Int} (n : a ≠ b) (e : W.far a b = some x) : lack W z a b = some (z.1 - x * z.2) := by
  unfold lack
  rw [if_neg n, e]
theorem path_sum {d : Dm} {G : Nat → Nat → Int} (h : ∀ a b v, d a b = some v → v = G a b) : ∀ (t : List Nat) (a : Nat) (v : Int), pathW d (a :: t) = some v → v = (((a :: t).zip t).map fun p => G p.1 p.2).sum
  | [], a, v, e => by
    have e : some (0 : Int) = some v := e
    cases e
    rfl
  | b :: t, a, v, e => by
    obtain ⟨x, y, ex, ey, rfl⟩ := addO_some e
    have ih := path_sum h t b y ey
    have hx := h _ _ _ ex
    show x + y = (((a, b) :: (b :: t).zip t).map fun p => G p.1 p.2).sum
    rw [List.map_cons, List.sum_cons, ← ih, ← hx]
theorem clos_lin (W : Wd) (z : Int × Int) (r : List Nat) : clos (fun a b => z.1 - (W.far a b).getD 0 * z.2) r = z.1 * (r.length : Nat) - clos (fun a b => (W.far a b).getD 0) r * z.2 := by
  unfold clos
  have e : (r.zip (r.drop 1 ++ r.take 1)).length = r.length := by rw [List.length_zip, ← rot_len]; omega
  rw [← e]
  generalize r.zip (r.drop 1 ++ r.take 1) = L
  induction L with
  | nil => simp
  | cons p L ih =>
    simp only [List.map_cons, List.sum_cons, ih, List.length_cons, Int.add_mul]
    rw [Int.natCast_add, Int.mul_add]
    simp
    omega
/-- what the best bound tells -/
structure BdOkR (W : Wd) (z : Int × Int) (r : List Nat) (v g : Int) : Prop where
  all : AllSome W
  mem : r ∈ rings W.hs
  sum : rsum W.far r = some v
  ez : z = lowF v r.length
  g0 : 0 < g
  e1 : v = g * z.1
  e2 : ((r.length : Nat) : Int) = g * z.2
  max : ∀ s ∈ rings W.hs, RLe W.far s r
theorem bd_facts {W : Wd} {z : Int × Int} (h : IsBd W z) : ∃ r v g, BdOkR W z r v g := by
  obtain ⟨ha, r, v, hb, hr, hv, rfl⟩ := h
  have hl : (0 : Int) < (r.length : Nat) := by have := (ring_row hr).1; omega
  obtain ⟨g, g0, e1, e2, _⟩ := low_parts (a := v) hl
  exact ⟨r, v, g, ha, hr, hv, rfl, g0, e1, e2, (best_max _ _ (fun s hs => by have := (ring_row hs).1; omega) (fun r h => by cases h) hb).1⟩
theorem clos_rsum {f : Dm} {r : List Nat} {v : Int} (h : rsum f r = some v) : clos (fun a b => (f a b).getD 0) r = v := (rsum_eq h).2.symm
theorem lack_cyc {W : Wd} {z : Int × Int} {r : List Nat} {v g : Int} (B : BdOkR W z r v g) : Cyc W.hs (lack W z) := by
  intro s x w ne nd hm hx hw
  have hl : (0 : Int) < (r.length : Nat) := by have := (ring_row B.mem).1; omega
  have z2 : 0 < z.2 := by rw [B.ez]; exact low_pos hl
  cases s with
  | nil => exact absurd rfl ne
  | cons a t =>
    have hd : ∀ a b v, lack W z a b = some v → v = (fun a b => z.1 - (W.far a b).getD 0 * z.2) a b := fun a b v e => by
      obtain ⟨_, y, ey, rfl⟩ := lack_some e
      show _ = z.1 - (W.far a b).getD 0 * z.2
      rw [ey]
      rfl
    have e1 := path_sum hd t a x hx
    have e2 := hd _ _ _ hw
    have hc := clos_cons (fun a b => z.1 - (W.far a b).getD 0 * z.2) a t
    have e3 : x + w = clos (fun a b => z.1 - (W.far a b).getD 0 * z.2) (a :: t) := by
      rw [hc, ← e1]
      congr 1
    rw [e3]
    have l2 : 2 ≤ (a :: t).length := by
      cases t with
      | nil => exact absurd rfl (lack_some hw).1
      | cons b u => simp
    obtain ⟨r0, hr0, hl0, hc0⟩ := ring_rot (hs := W.hs) (fun a b => (W.far a b).getD 0) l2 nd hm
    rw [clos_lin, ← hc0]
    have hs0 := rsum_some B.all hr0
    have hu := clos_rsum hs0
    generalize ((rsteps W.far r0).map (·.getD 0)).sum = u at hs0 hu
    rw [hu]
    have mx : u * (r.length : Nat) ≤ v * (r0.length : Nat) := by
      have := B.max r0 hr0
      unfold RLe at this
      rw [hs0, B.sum] at this
      exact this
    rw [B.e1, B.e2, hl0] at mx
    have e4 : g * (u * z.2) ≤ g * (z.1 * ((a :: t).length : Nat)) := by
      have a1 : u * (g * z.2) = g * (u * z.2) := by ac_rfl
      have a2 : g * z.1 * (((a :: t).length : Nat) : Int) = g * (z.1 * ((a :: t).length : Nat)) := by ac_rfl
      rw [← a1, ← a2]
      exact mx
    have := Int.le_of_mul_le_mul_left e4 B.g0
    omega
theorem row_two {hs : List Nat} {d : Dm} {a b : Nat} {x : Int} (ha : a ∈ hs) (hb : b ∈ hs) (n : a ≠ b) (e : d a b = some x) : Row hs d a b [a, b] x := by
  refine ⟨rfl, rfl, by simp, by simp [n], fun y hy => ?_, ?_⟩
  · simp at hy
    rcases hy with rfl | rfl
    · exact ha
    · exact hb
  · show addO (d a b) (some 0) = _
    rw [e]
    simp [addO]
/-- the least lack from the first hand -/
def potF (W : Wd) (z : Int × Int) (h : Nat) : Int := if h = W.hs.headD 0 then 0 else (farL W.hs (lack W z) (W.hs.headD 0) h).getD 0
theorem pot_row {W : Wd} {z : Int × Int} (ha : AllSome W) (h0 : W.hs.headD 0 ∈ W.hs) {h : Nat} (hh : h ∈ W.hs) : ∃ r, Row W.hs (lack W z) (W.hs.headD 0) h r (potF W z h) := by
  by_cases c : h = W.hs.headD 0
  · refine ⟨[W.hs.headD 0], ?_⟩
    unfold potF
    rw [if_pos c, c]
    exact row_one h0
  · obtain ⟨x, ex⟩ := ha (W.hs.headD 0, h) (mem_pairs.mpr ⟨h0, hh, fun z => c z.symm⟩)
    have n : W.hs.headD 0 ≠ h := fun z => c z.symm
    have R : Row W.hs (lack W z) (W.hs.headD 0) h [W.hs.headD 0, h] (z.1 - x * z.2) := row_two h0 hh n (lack_of n ex)
    obtain ⟨y, ey, hy⟩ := farL_compl R n
    obtain ⟨_, _, r, R2⟩ := farL_sound ey
    refine ⟨r, ?_⟩
    unfold potF
    rw [if_neg c, ey]
    exact R2
theorem pot_step {W : Wd} {z : Int × Int} {r : List Nat} {v g : Int} (B : BdOkR W z r v g) (h0 : W.hs.headD 0 ∈ W.hs) {a b : Nat} (ha : a ∈ W.hs) (hb : b ∈ W.hs) (n : a ≠ b) {x : Int} (ex : W.far a b = some x) : potF W z b ≤ potF W z a + (z.1 - x * z.2) := by
  have C := lack_cyc B
  obtain ⟨ra, Ra⟩ := pot_row (z := z) B.all h0 ha
  have el := lack_of (z := z) n ex
  by_cases c : b = W.hs.headD 0
  · have e : potF W z b = 0 := by unfold potF; rw [if_pos c]
    rw [e]
    rw [c] at el
    exact cyc_close C Ra el
  · obtain ⟨y, ey, hy⟩ := farL_step C Ra hb (fun z => c z.symm) el
    have e : potF W z b = y := by unfold potF; rw [if_neg c, ey]; rfl
    omega
/-! ### the rounds of the correction -/
theorem cor_mono (W : Wd) (z : Int × Int) : ∀ (L : List (Nat × Nat)) (c : Nat → Int) (h : Nat), c h ≤ L.foldl (corStep W z) c h
  | [], c, h => Int.le_refl _
  | p :: L, c, h => by
    have ih := cor_mono W z L (corStep W z c p) h
    have h1 : c h ≤ corStep W z c p h := by
      unfold corStep
      split
      · rename_i e
        rw [e]
        exact Int.le_max_left _ _
      · exact Int.le_refl _
    exact Int.le_trans h1 ih
theorem cor_edge (W : Wd) (z : Int × Int) : ∀ (L : List (Nat × Nat)) (c : Nat → Int) {a b : Nat}, (a, b) ∈ L → c a + (W.far a b).getD 0 * z.2 - z.1 ≤ L.foldl (corStep W z) c b
  | p :: L, c, a, b, h => by
    rw [List.foldl_cons]
    rcases List.mem_cons.mp h with e | e
    · subst e
      have h1 : c a + (W.far a b).getD 0 * z.2 - z.1 ≤ corStep W z c (a, b) b := by
        unfold corStep
        rw [if_pos rfl]
        exact Int.le_max_right _ _
      exact Int.le_trans h1 (cor_mono W z L _ b)
    · have ih := cor_edge W z L (corStep W z c p) e
      have h1 : c a ≤ corStep W z c p a := by
        have := cor_mono W z [p] c a
        exact this
      omega
theorem cor_le (W : Wd) (z : Int × Int) (p : Nat → Int) (hp : ∀ l ∈ pairs W.hs, p l.1 + (W.far l.1 l.2).getD 0 * z.2 - z.1 ≤ p l.2) : ∀ (L : List (Nat × Nat)) (c : Nat → Int), (∀ l ∈ L, l ∈ pairs W.hs) → (∀ h ∈ W.hs, c h ≤ p h) → ∀ h ∈ W.hs, L.foldl (corStep W z) c h ≤ p h
  | [], c, _, hc => hc
  | l :: L, c, hL, hc => by
    refine cor_le W z p hp L _ (fun x hx => hL x (List.mem_cons_of_mem _ hx)) fun h hh => ?_
    have hl := hL l List.mem_cons_self
    obtain ⟨h1, h2, _⟩ := mem_pairs.mp (show (l.1, l.2) ∈ pairs W.hs from hl)
    unfold corStep
    split
    · rename_i e
      rw [e]
      have a1 := hc l.2 h2
      have a2 := hc l.1 h1
      have a3 := hp l hl
      exact Int.max_le.mpr ⟨a1, by omega⟩
    · exact hc h hh
def corK (W : Wd) (z : Int × Int) : Nat → Nat → Int
  | 0 => cor0 W z
  | k + 1 => (pairs W.hs).foldl (corStep W z) (corK W z k)
theorem corF_K (W : Wd) (z : Int × Int) : corF W z = corK W z W.hs.length := by
  have : ∀ (l : List Nat) (k : Nat), l.foldl (fun c _ => (pairs W.hs).foldl (corStep W z) c) (corK W z k) = corK W z (k + l.length) := by
    intro l
    induction l with
    | nil => intro k; rfl
    | cons a l ih =>
      intro k
      rw [List.foldl_cons, show (pairs W.hs).foldl (corStep W z) (corK W z k) = corK W z (k + 1) from rfl, ih, List.length_cons]
      congr 1
      omega
  have h := this W.hs 0
  rw [Nat.zero_add] at h
  exact h
theorem corK_row {W : Wd} {z : Int × Int} : ∀ (k : Nat) {r : List Nat} {j : Nat} {v : Int}, Row W.hs (lack W z) (W.hs.headD 0) j r v → r.length ≤ k + 1 → -v ≤ corK W z k j
  | 0, r, j, v, R, hl => by
    match r, R, hl with
    | [a], R, _ =>
      have e1 : a = W.hs.headD 0 := R.hd
      have e2 : a = j := R.lt
      have e3 : some (0 : Int) = some v := R.w
      cases e3
      show -0 ≤ cor0 W z j
      unfold cor0
      rw [if_pos (e2 ▸ e1)]
      decide
    | [], R, _ => exact absurd rfl R.ne
  | k + 1, r, j, v, R, hl => by
    by_cases c : r.length ≤ k + 1
    · have ih := corK_row k R c
      exact Int.le_trans ih (cor_mono W z (pairs W.hs) (corK W z k) j)
    · obtain ⟨r0, x, rfl⟩ : ∃ r0 x, r = r0 ++ [x] := by
        rcases List.eq_nil_or_concat r with e | ⟨r0, x, e⟩
        · exact absurd e R.ne
        · exact ⟨r0, x, by rw [e, List.concat_eq_append]⟩
      have ne : r0 ≠ [] := fun z => by subst z; simp at c
      have hx : x = j := by
        have := R.lt
        rw [last_app (by simp)] at this
        exact this
      subst hx
      have hw := R.w
      rw [pathW_snoc _ _ _ ne] at hw
      obtain ⟨a, b, ea, eb, rfl⟩ := addO_some hw
      have nd0 := List.nodup_append.mp R.nd
      have hd : r0.headD 0 = W.hs.headD 0 := by
        have := R.hd
        cases r0 with
        | nil => exact absurd rfl ne
        | cons y t => exact this
      have hl0 : r0.length ≤ k + 1 := by simp at hl; omega
      have R0 : Row W.hs (lack W z) (W.hs.headD 0) (r0.getLastD 0) r0 a := ⟨hd, rfl, ne, nd0.1, fun y hy => R.mem y (List.mem_append_left _ hy), ea⟩
      have ih := corK_row k R0 hl0
      obtain ⟨nab, y, ey, rfl⟩ := lack_some eb
      have hl1 : r0.getLastD 0 ∈ W.hs := by
        refine R.mem _ (List.mem_append_left _ ?_)
        rw [List.getLastD_eq_getLast?, List.getLast?_eq_some_getLast ne]
        exact List.getLast_mem _
      have he := cor_edge W z (pairs W.hs) (corK W z k) (mem_pairs.mpr ⟨hl1, R.mem x (by simp), nab⟩)
      rw [ey] at he
      show -(a + (z.1 - y * z.2)) ≤ (pairs W.hs).foldl (corStep W z) (corK W z k) x
      have he : corK W z k (r0.getLastD 0) + y * z.2 - z.1 ≤ (pairs W.hs).foldl (corStep W z) (corK W z k) x := he
      omega
theorem cor_pot {W : Wd} {z : Int × Int} {r : List Nat} {v g : Int} (B : BdOkR W z r v g) (h0 : W.hs.headD 0 ∈ W.hs) {h : Nat} (hh : h ∈ W.hs) : corF W z h = -(potF W z h) := by
  rw [corF_K]
  have hp : ∀ l ∈ pairs W.hs, -(potF W z l.1) + (W.far l.1 l.2).getD 0 * z.2 - z.1 ≤ -(potF W z l.2) := fun l hl => by
    obtain ⟨x, ex⟩ := B.all l hl
    obtain ⟨a1, a2, a3⟩ := mem_pairs.mp (show (l.1, l.2) ∈ pairs W.hs from hl)
    have := pot_step B h0 a1 a2 a3 ex
    rw [ex]
    simp only [Option.getD_some]
    omega
  have up : ∀ k, ∀ h ∈ W.hs, corK W z k h ≤ -(potF W z h) := by
    intro k
    induction k with
    | zero =>
      intro h hh
      show cor0 W z h ≤ _
      unfold cor0
      by_cases c : h = W.hs.headD 0
      · rw [if_pos c]
        unfold potF
        rw [if_pos c]
        decide
      · rw [if_neg c]
        have := hp (W.hs.headD 0, h) (mem_pairs.mpr ⟨h0, hh, fun z => c z.symm⟩)
        have e : potF W z (W.hs.headD 0) = 0 := by unfold potF; rw [if_pos rfl]
        have this : -(potF W z (W.hs.headD 0)) + (W.far (W.hs.headD 0) h).getD 0 * z.2 - z.1 ≤ -(potF W z h) := this
        rw [e] at this
        omega
    | succ k ih => exact cor_le W z _ hp (pairs W.hs) _ (fun _ h => h) ih
  obtain ⟨rr, R⟩ := pot_row (z := z) B.all h0 hh
  have lo := corK_row W.hs.length R (by have := row_len R; omega)
  have := up W.hs.length h hh
  omega
end
end K80

set_option maxHeartbeats 4000000
/-! the package's own correction: the answer is as far apart as the best bound -/
namespace K80
section
variable {hs : List Nat} {ks ks' : List (Nat × Nat)} {rd : Nat × Nat → Int × Option Int} {ls : List Lt} {off0' : Nat → Int}
theorem path_sz {d : Dm} {n : Nat} (z : DSz d n) : ∀ (r : List Nat) (v : Int), pathW d r = some v → v.natAbs ≤ r.length * 2 ^ n
  | [], v, e => by
    have e : some (0 : Int) = some v := e
    cases e
    simp
  | [a], v, e => by
    have e : some (0 : Int) = some v := e
    cases e
    simp
  | a :: b :: t, v, e => by
    obtain ⟨x, y, ex, ey, rfl⟩ := addO_some e
    have ih := path_sz z (b :: t) y ey
    have h1 := z _ _ _ ex
    rw [List.length_cons, Nat.succ_mul]
    omega
theorem clos_fit {W : Wd} {p : Nat → Int} (h : ∀ a b v, W.far a b = some v → p b - p a ≤ v) (ha : AllSome W) {r : List Nat} (hr : r ∈ rings W.hs) : 0 ≤ clos (fun a b => (W.far a b).getD 0) r := by
  obtain ⟨h2, _, nd, hm⟩ := ring_row hr
  have h1 : ∀ L : List (Nat × Nat), (∀ q ∈ L, q ∈ pairs W.hs) → (L.map fun q => p q.2 - p q.1).sum ≤ (L.map fun q => (W.far q.1 q.2).getD 0).sum := by
    intro L
    induction L with
    | nil => intro _; simp
    | cons q L ih =>
      intro hq
      have ih := ih fun x hx => hq x (List.mem_cons_of_mem _ hx)
      obtain ⟨v, e⟩ := ha q (hq q List.mem_cons_self)
      have h3 := h _ _ _ e
      simp only [List.map_cons, List.sum_cons]
      rw [e]
      simp only [Option.getD_some]
      omega
  have := h1 (r.zip (r.drop 1 ++ r.take 1)) fun q hq => mem_pairs.mpr ⟨(zip_rot_mem hm hq).1, (zip_rot_mem hm hq).2, zip_rot_ne nd h2 hq⟩
  rw [tele] at this
  exact this
theorem bd_small (D : Drawn hs ks rd ls off0') {z : Int × Int} {r : List Nat} {v g : Int} (B : BdOkR ⟨hs, ks', rd, ls⟩ z r v g) : v.natAbs < 2 ^ 31 ∧ z.1.natAbs < 2 ^ 31 ∧ z.2.natAbs < 8 ∧ 0 < z.2 ∧ 0 ≤ z.1 := by
  have h5 := D.h5
  obtain ⟨l2, _, nd, hm⟩ := ring_row B.mem
  have l5 : r.length ≤ 5 := Nat.le_trans (nodup_le nd hm) h5
  have hl : (0 : Int) < (r.length : Nat) := by omega
  have hv : v.natAbs < 2 ^ 31 := by
    obtain ⟨_, e⟩ := rsum_eq B.sum
    have h1 := sum_sz (n := 28) (l := (r.zip (r.drop 1 ++ r.take 1)).map fun p => ((⟨hs, ks', rd, ls⟩ : Wd).far p.1 p.2).getD 0) (fun x hx => by
      obtain ⟨p, hp, rfl⟩ := List.mem_map.mp hx
      obtain ⟨y, ey⟩ := B.all (p.1, p.2) (mem_pairs.mpr ⟨(zip_rot_mem hm hp).1, (zip_rot_mem hm hp).2, zip_rot_ne nd l2 hp⟩)
      have ey : (⟨hs, ks', rd, ls⟩ : Wd).far p.1 p.2 = some y := ey
      rw [ey]
      exact D.fsz ks' _ _ _ ey)
    rw [← e, List.length_map, List.length_zip] at h1
    have : min r.length (r.drop 1 ++ r.take 1).length ≤ 5 := Nat.le_trans (Nat.min_le_left _ _) l5
    have h2 := Nat.mul_le_mul_right (2 ^ 28) this
    have p28 : (2 : Nat) ^ 28 = 268435456 := by decide
    have p31 : (2 : Nat) ^ 31 = 2147483648 := by decide
    omega
  have z2 : 0 < z.2 := by rw [B.ez]; exact low_pos hl
  obtain ⟨b1, b2⟩ := low_natAbs (a := v) hl
  rw [← B.ez] at b1 b2
  have v0 : 0 ≤ v := by
    have := clos_fit (p := off0') (fun a b v e => fit_wlk D.fit (D.least.walk _ _ _ e)) B.all B.mem
    rw [clos_rsum B.sum] at this
    exact this
  refine ⟨hv, by omega, by omega, z2, ?_⟩
  have := B.e1
  rw [this] at v0
  exact Int.nonneg_of_mul_nonneg_right v0 B.g0 |> id
theorem head_mem {hs : List Nat} (h : 2 ≤ hs.length) : hs.headD 0 ∈ hs := by
  cases hs with
  | nil => simp at h
  | cons a t => exact List.mem_cons_self
theorem own_tk (D : Drawn hs ks rd ls off0') {z : Int × Int} (hb : IsBd ⟨hs, ks', rd, ls⟩ z) : TkOk hs (corF ⟨hs, ks', rd, ls⟩ z) z.2 := by
  obtain ⟨r, v, g, B⟩ := bd_facts hb
  obtain ⟨s1, s2, s3, s4, _⟩ := bd_small D B
  refine ⟨s4, Nat.lt_of_lt_of_le (show z.2.natAbs < 2 ^ 3 by omega) (Nat.pow_le_pow_right (by decide) (by decide)), fun h hh => ?_⟩
  have h0 : (⟨hs, ks', rd, ls⟩ : Wd).hs.headD 0 ∈ (⟨hs, ks', rd, ls⟩ : Wd).hs := head_mem D.h2
  rw [cor_pot B h0 hh, Int.natAbs_neg]
  obtain ⟨rr, R⟩ := pot_row (z := z) B.all h0 hh
  have zl : DSz (lack ⟨hs, ks', rd, ls⟩ z) 32 := fun a b w e => by
    obtain ⟨_, x, ex, rfl⟩ := lack_some e
    have hx := D.fsz ks' _ _ _ ex
    have hm : (x * z.2).natAbs ≤ 2 ^ 28 * 8 := by
      rw [Int.natAbs_mul]
      exact Nat.mul_le_mul (Nat.le_of_lt hx) (Nat.le_of_lt s3)
    have p28 : (2 : Nat) ^ 28 = 268435456 := by decide
    have p31 : (2 : Nat) ^ 31 = 2147483648 := by decide
    have p32 : (2 : Nat) ^ 32 = 4294967296 := by decide
    omega
  have h1 := path_sz zl rr _ R.w
  have h2 := row_len R
  have h5 := D.h5
  have h3 : rr.length * 2 ^ 32 ≤ 5 * 2 ^ 32 := Nat.mul_le_mul_right _ (Nat.le_trans h2 h5)
  have p32 : (2 : Nat) ^ 32 = 4294967296 := by decide
  have p40 : (2 : Nat) ^ 40 = 1099511627776 := by decide
  exact Nat.lt_of_lt_of_le (show _ < 2 ^ 40 by omega) (Nat.pow_le_pow_right (by decide) (by decide))
/-- THE OWN CORRECTION -/
theorem own_exact (D : Drawn hs ks rd ls off0') {z : Int × Int} (hb : IsBd ⟨hs, ks', rd, ls⟩ z) {fr : Int} {off : Nat → Int} {i j : Nat} (B : Brk ⟨hs, ks', rd, ls⟩ (corF ⟨hs, ks', rd, ls⟩ z) z.2 fr off i j) :
    TkOk hs (fun h => off h * z.2) z.2 ∧ lowF (apN (fun h => off h * z.2) (corF ⟨hs, ks', rd, ls⟩ z) i j) z.2 = z := by
  obtain ⟨r, v, g, BB⟩ := bd_facts hb
  obtain ⟨s1, s2, s3, s4, s0⟩ := bd_small D BB
  have h0 : (⟨hs, ks', rd, ls⟩ : Wd).hs.headD 0 ∈ (⟨hs, ks', rd, ls⟩ : Wd).hs := head_mem D.h2
  cases B with
  | loose k n f hz =>
    obtain ⟨y, ey⟩ := BB.all _ k
    rw [show (⟨hs, ks', rd, ls⟩ : Wd).far i j = some y from ey] at n
    cases n
  | @far up lo i j ha k mx f =>
    constructor
    · refine ⟨s4, Nat.lt_of_lt_of_le (show z.2.natAbs < 2 ^ 3 by omega) (Nat.pow_le_pow_right (by decide) (by decide)), fun h hh => ?_⟩
      have ho : (offF ⟨hs, ks', rd, ls⟩ i up lo h).natAbs < 2 ^ 28 := by
        unfold offF off0
        by_cases c : h = i
        · rw [if_pos c]
          exact Nat.two_pow_pos _
        · rw [if_neg c]
          obtain ⟨y, ey⟩ := ha (i, h) (mem_pairs.mpr ⟨(mem_pairs.mp k).1, hh, fun e => c e.symm⟩)
          have ey : (⟨hs, ks', rd, ls⟩ : Wd).far i h = some y := ey
          rw [ey]
          exact D.fsz ks' _ _ _ ey
      have := L2.wide_lt ho (show z.2.natAbs < 2 ^ 3 by omega)
      exact Nat.lt_of_lt_of_le this (Nat.pow_le_pow_right (by decide) (by decide))
    · have hN := brk_far (up := up) (lo := lo) (tn := corF ⟨hs, ks', rd, ls⟩ z) (tq := z.2) ha k
      obtain ⟨ki, kj, kn⟩ := mem_pairs.mp k
      obtain ⟨x, ex⟩ := ha _ k
      have ex : (⟨hs, ks', rd, ls⟩ : Wd).far i j = some x := ex
      have hp := pot_step BB h0 ki kj kn ex
      have c1 := cor_pot BB h0 ki
      have c2 := cor_pot BB h0 kj
      have up1 : slk ⟨hs, ks', rd, ls⟩ (corF ⟨hs, ks', rd, ls⟩ z) z.2 i j ≤ z.1 := by
        unfold slk
        rw [ex, c1, c2]
        simp only [Option.getD_some]
        omega
      have avg := avg_ring BB.mem BB.sum mx
      generalize hS : slk ⟨hs, ks', rd, ls⟩ (corF ⟨hs, ks', rd, ls⟩ z) z.2 i j = S at up1 hN avg
      have lo1 : z.1 ≤ S := by
        rw [BB.e1, BB.e2] at avg
        have e1 : g * z.1 * z.2 = z.1 * (g * z.2) := by ac_rfl
        rw [e1] at avg
        exact Int.le_of_mul_le_mul_right avg (Int.mul_pos BB.g0 s4)
      have eS : S = z.1 := by omega
      have ea : apN (fun h => offF ⟨hs, ks', rd, ls⟩ i up lo h * z.2) (corF ⟨hs, ks', rd, ls⟩ z) i j = z.1 := by
        unfold apN
        dsimp only
        rw [hN]
        split <;> omega
      rw [ea]
      have hl : (0 : Int) < (r.length : Nat) := by have := (ring_row BB.mem).1; omega
      have := low_low (a := v) hl
      rw [← BB.ez] at this
      exact this
end
end K80

set_option maxHeartbeats 4000000
/-! what stays while some lists and the tables change -/
namespace K80
open PySem PySem.Spec L2 LamX NdefX
open PyProof.Rows hiding St
/-- the heap without the lists S, and without tables -/
def cut (S : List Addr) (H : Hp) : Hp := fun b => match H b with
  | some (.lst xs) => if b ∈ S then none else some (.lst xs)
  | some (.tbl _) => none
  | o => o
/-- no list, no table -/
def Firm : HO → Bool
  | .lst _ => false
  | .tbl _ => false
  | _ => true
section
variable {S S' : List Addr} {H H' H2 : Hp} {b st cl : Addr} {o : HO} {xs : List V} {n : Nat}
theorem cut_lst (e : H b = some (.lst xs)) (h : b ∉ S) : cut S H b = some (.lst xs) := by
  unfold cut
  rw [e]
  exact if_neg h
theorem cut_firm (e : H b = some o) (h : Firm o = true := by rfl) : cut S H b = some o := by
  unfold cut
  rw [e]
  cases o <;> first | rfl | cases h
theorem cut_cases (e : cut S H b = some o) : H b = some o ∧ ((∃ xs, o = .lst xs ∧ b ∉ S) ∨ Firm o = true) := by
  unfold cut at e
  cases h : H b with
  | none => rw [h] at e; cases e
  | some u =>
    rw [h] at e
    cases u with
    | lst xs =>
      have e : (if b ∈ S then none else some (HO.lst xs)) = some o := e
      by_cases c : b ∈ S
      · rw [if_pos c] at e; cases e
      · rw [if_neg c] at e
        cases e
        exact ⟨rfl, .inl ⟨xs, rfl, c⟩⟩
    | tbl ps => cases e
    | _ => cases e; exact ⟨rfl, .inr rfl⟩
theorem cut_le : Same (cut S H) H := fun b o e => (cut_cases e).1
theorem cut_mono (s : Same (cut S H) H') : Same (cut S H) (cut S H') := fun b o e => by
  rcases (cut_cases e).2 with ⟨xs, rfl, n⟩ | f
  · exact cut_lst (s _ _ e) n
  · exact cut_firm (s _ _ e) f
theorem cut_same (s : Same H H') : Same (cut S H) (cut S H') := cut_mono fun b o e => s _ _ (cut_le _ _ e)
theorem cut_ext (s : ExtN H H') : Same (cut S H) (cut S H') := cut_mono fun b o e => by
  obtain ⟨e1, h⟩ := cut_cases e
  refine s _ _ e1 fun ps z => ?_
  subst z
  rcases h with ⟨xs, z, _⟩ | z <;> cases z
theorem cut_mv (h : StAt H st cl n) (s : Mv st cl H H') (h1 : st ∈ S) (h2 : cl ∈ S) : Same (cut S H) (cut S H') := cut_mono fun b o e => by
  obtain ⟨e1, f⟩ := cut_cases e
  rcases f with ⟨xs, rfl, n⟩ | f
  · exact s _ _ (fun z => n (z ▸ h1)) (fun z => n (z ▸ h2)) e1
  · exact s.keep h e1 fun xs z => by rw [z] at f; cases f
theorem cut_upd (h : b ∈ S) : Same (cut S H) (cut S (upd H b (.lst xs))) ∨ ∃ o, H b = some o ∧ Firm o = true := by
  by_cases c : ∃ o, H b = some o ∧ Firm o = true
  · exact .inr c
  · refine .inl (cut_mono fun a o e => ?_)
    obtain ⟨e1, f⟩ := cut_cases e
    have : a ≠ b := fun z => by
      subst z
      rcases f with ⟨ys, rfl, n⟩ | f
      · exact n h
      · exact c ⟨o, e1, f⟩
    rw [upd_ne this]
    exact e1
theorem cut_put {ys : List V} (h : b ∈ S) (e : H b = some (.lst ys)) : Same (cut S H) (cut S (upd H b (.lst xs))) := (cut_upd h).resolve_right fun ⟨o, e2, f⟩ => by rw [e] at e2; cases e2; cases f
/-- a list more is held apart -/
theorem cut_new (e : H b = none) : Same (cut S H) (cut (b :: S) (upd H b (.lst xs))) := fun a o h => by
  obtain ⟨e1, f⟩ := cut_cases h
  have n : a ≠ b := ne_of_none e1 e
  have e2 : (upd H b (.lst xs)) a = some o := by rw [upd_ne n]; exact e1
  rcases f with ⟨ys, rfl, n2⟩ | f
  · exact cut_lst e2 fun z => (List.mem_cons.mp z).elim n n2
  · exact cut_firm e2 f
theorem cut_sub (h : ∀ b ∈ S', b ∈ S) : Same (cut S H) (cut S' H) := fun a o e => by
  obtain ⟨e1, f⟩ := cut_cases e
  rcases f with ⟨ys, rfl, n2⟩ | f
  · exact cut_lst e1 fun z => n2 (h _ z)
  · exact cut_firm e1 f
end
section
variable {K : PySem.W.Frag} {S : List Addr} {H : Hp}
theorem cut_logN {x : Addr} {W : Wd} (h : LogAtN K H x W (fun b => b ∉ S)) : LogAt K (cut S H) x W := by
  obtain ⟨dx, fs, a1, a2, a3, a4, a5, ⟨n1, n3⟩, e0, e1, e2, h1, ⟨v2, h2, k2⟩, ⟨xs, h3, p3⟩, ⟨k4, h4, t4⟩, k5, h5, t5⟩ := h
  exact ⟨dx, fs, a1, a2, a3, a4, a5, cut_firm e0, e1, e2, cut_lst h1 n1, ⟨v2, cut_firm h2, fun k hk => let ⟨b, e, z⟩ := k2 k hk; ⟨b, e, cut_firm z⟩⟩, ⟨xs, cut_lst h3 n3, pr_mono p3 fun v l ⟨b, e, z⟩ => ⟨b, e, cut_firm z⟩⟩, ⟨k4, cut_firm h4, t4⟩, k5, cut_firm h5, t5⟩
theorem cut_drawn {d l r a : Addr} {hs : List Nat} {ks : List (Nat × Nat)} {rd : Nat × Nat → Int × Option Int} {ls : List Lt} (h : DrawnAt H d l r a hs ks rd ls) (nl : l ∉ S) (na : a ∉ S) : DrawnAt (cut S H) d l r a hs ks rd ls := by
  obtain ⟨h1, h2, ⟨v, h3, k3⟩, ⟨xs, h4, p4⟩⟩ := h
  exact ⟨cut_firm h1, cut_lst h2 nl, ⟨v, cut_firm h3, fun k hk => let ⟨b, e, z⟩ := k3 k hk; ⟨b, e, cut_firm z⟩⟩, ⟨xs, cut_lst h4 na, pr_mono p4 fun v l ⟨b, e, z⟩ => ⟨b, e, cut_firm z⟩⟩⟩
theorem isT_cut {α : Type} {f : α → List V} {v : V} {u : α} (h : IsT f H v u) : IsT f (cut S H) v u := let ⟨b, e, z⟩ := h; ⟨b, e, cut_firm z⟩
theorem cut_told {p : Addr} {W : Wd} (h : ToldAt H p W) : ToldAt (cut S H) p W := by
  obtain ⟨a, b, c, h1, h2, ⟨xs, h3, p3⟩, ys, h4, p4⟩ := h
  exact ⟨a, b, c, cut_firm h1, cut_firm h2, ⟨xs, cut_firm h3, pr_mono p3 fun v k h => isT_cut h⟩, ys, cut_firm h4, pr_mono p4 fun v k h => isT_cut h⟩
theorem ToldAt.same {H H' : Hp} {p : Addr} {W : Wd} (s : Same H H') (h : ToldAt H p W) : ToldAt H' p W := by
  obtain ⟨a, b, c, h1, h2, ⟨xs, h3, p3⟩, ys, h4, p4⟩ := h
  exact ⟨a, b, c, s _ _ h1, s _ _ h2, ⟨xs, s _ _ h3, pr_mono p3 fun v k h => isT_same _ _ _ _ _ s h⟩, ys, s _ _ h4, pr_mono p4 fun v k h => isT_same _ _ _ _ _ s h⟩
theorem cut_rdk {t : Addr} {hs : List Nat} {f : Nat → Int × Int} (h : RdK H t hs f) : RdK (cut S H) t hs f := let ⟨v, e, k⟩ := h; ⟨v, cut_firm e, fun x hx => let ⟨b, e1, e2⟩ := k x hx; ⟨b, e1, cut_firm e2⟩⟩
end
/-! ### two told logs are the same -/
section
theorem sm_leaf {H : Hp} {n : Nat} {x : V} (h : Leafy x) : Sm (n + 1) H x x := .inl ⟨rfl, h⟩
theorem sm_rows {H : Hp} {n : Nat} {a b : Addr} {xs ys : List V} (ha : H a = some (.tup xs)) (hb : H b = some (.tup ys)) (hz : xs.length ≤ 1000) (h : Paired (Sm n H) xs ys) : Sm (n + 1) H (.ref a) (.ref b) := .inr (.inl ⟨a, b, xs, ys, rfl, rfl, hz, .inr ⟨ha, hb⟩, h⟩)
theorem pr_refl {α : Type} {R : α → α → Prop} : ∀ {l : List α}, (∀ x ∈ l, R x x) → Paired R l l
  | [], _ => .nil
  | x :: l, h => .cons (h x List.mem_cons_self) (pr_refl fun y hy => h y (List.mem_cons_of_mem _ hy))
theorem pr_comp {α β : Type} {F : α → β → Prop} {R : α → α → Prop} {xs ys : List α} {us : List β} (h1 : Paired F xs us) : Paired F ys us → (∀ x y u, F x u → F y u → R x y) → Paired R xs ys := by
  intro h2 k
  induction h1 generalizing ys with
  | nil => cases h2; exact .nil
  | cons h t ih => cases h2 with
    | cons h' t' => exact .cons (k _ _ _ h h') (ih t')
theorem sm_told {H : Hp} {p q : Addr} {W : Wd} (z : W.hs.length ≤ 1000 ∧ W.ks.length ≤ 1000 ∧ W.ls.length ≤ 1000) (h : ToldAt H p W) (k : ToldAt H q W) : Sm 4 H (.ref p) (.ref q) := by
  obtain ⟨a, b, c, h1, h2, ⟨xs, h3, p3⟩, ys, h4, p4⟩ := h
  obtain ⟨a', b', c', k1, k2, ⟨xs', k3, q3⟩, ys', k4, q4⟩ := k
  have e1 := p3.length
  have e2 := p4.length
  have lf : ∀ n (l : List V), (∀ v ∈ l, Leafy v) → Paired (Sm (n + 1) H) l l := fun n l h => pr_refl fun v hv => sm_leaf (h v hv)
  refine sm_rows h1 k1 (by show 3 ≤ 1000; decide) (.cons ?_ (.cons ?_ (.cons ?_ .nil)))
  · exact sm_rows h2 k2 (by rw [List.length_map]; omega) (lf 1 _ fun v hv => by
      obtain ⟨i, _, rfl⟩ := List.mem_map.mp hv
      exact .inr (.inr (.inr ⟨_, rfl⟩)))
  · refine sm_rows h3 k3 (by omega) (pr_comp p3 q3 fun x y u ⟨b, e, hb⟩ ⟨b', e', hb'⟩ => ?_)
    subst e e'
    have hl : ∀ v ∈ rowV u (W.rd u), Leafy v := fun v hv => by
      unfold rowV at hv
      rcases List.mem_append.mp hv with z | z
      · simp at z
        rcases z with rfl | rfl | rfl
        · exact .inr (.inr (.inr ⟨_, rfl⟩))
        · exact .inr (.inr (.inr ⟨_, rfl⟩))
        · exact .inr (.inl ⟨_, rfl⟩)
      · cases em : (W.rd u).2 with
        | none => rw [em] at z; cases z
        | some m =>
          rw [em] at z
          simp at z
          subst z
          exact .inr (.inl ⟨_, rfl⟩)
    have lz : (rowV u (W.rd u)).length ≤ 1000 := by
      unfold rowV
      cases (W.rd u).2 <;> simp
    exact sm_rows hb hb' lz (lf 0 _ hl)
  · refine sm_rows h4 k4 (by omega) (pr_comp p4 q4 fun x y u ⟨b, e, hb⟩ ⟨b', e', hb'⟩ => ?_)
    subst e e'
    refine sm_rows hb hb' (by show 4 ≤ 1000; decide) (lf 0 _ fun v hv => ?_)
    simp at hv
    rcases hv with rfl | rfl | rfl | rfl
    · exact .inr (.inr (.inr ⟨_, rfl⟩))
    · exact .inr (.inl ⟨_, rfl⟩)
    · exact .inr (.inr (.inr ⟨_, rfl⟩))
    · exact .inr (.inl ⟨_, rfl⟩)
end
end K80

set_option maxHeartbeats 4000000
/-! the law's bound is the package's -/
namespace K80
section
variable {hs : List Nat} {ks ks' : List (Nat × Nat)} {rd : Nat × Nat → Int × Option Int} {ls : List Lt} {off0' : Nat → Int}
theorem rsteps_farL (D : Drawn hs ks rd ls off0') {r : List Nat} (hr : r ∈ rings hs) : rsteps (farL hs (direct rd ls)) r = rsteps (least hs (direct rd ls)) r := by
  obtain ⟨l2, _, nd, hm⟩ := ring_row hr
  unfold rsteps
  refine List.map_congr_left fun p hp => ?_
  exact least_farL D.cyc D.in2 (zip_rot_ne nd l2 hp)
theorem rsum_farL (D : Drawn hs ks rd ls off0') {r : List Nat} (hr : r ∈ rings hs) : rsum (farL hs (direct rd ls)) r = rsum (least hs (direct rd ls)) r := by
  unfold rsum
  rw [rsteps_farL D hr]
theorem best_congr {f g : Dm} : ∀ (l : List (List Nat)) (b : Option (List Nat)), (∀ r ∈ l, rsum f r = rsum g r) → (∀ r, b = some r → rsum f r = rsum g r) → l.foldl (bestStep f) b = l.foldl (bestStep g) b
  | [], _, _, _ => rfl
  | x :: l, b, h, k => by
    rw [List.foldl_cons, List.foldl_cons]
    have hx := h x List.mem_cons_self
    have e : bestStep f b x = bestStep g b x := by
      unfold bestStep
      cases b with
      | none => rfl
      | some b => dsimp only; rw [hx, k b rfl]
    rw [e]
    refine best_congr l _ (fun r hr => h r (List.mem_cons_of_mem _ hr)) fun r hr => ?_
    unfold bestStep at hr
    cases b with
    | none => cases hr; exact hx
    | some b =>
      dsimp only at hr
      split at hr
      · cases hr; exact hx
      · cases hr; exact k _ rfl
theorem best_farL (D : Drawn hs ks rd ls off0') : bestF hs (farL hs (direct rd ls)) = bestR ⟨hs, ks', rd, ls⟩ := best_congr (rings hs) none (fun _ hr => rsum_farL D hr) fun _ h => by cases h
theorem ringsOk_farL (D : Drawn hs ks rd ls off0') : RgOk' hs (farL hs (direct rd ls)) := by
  intro r hr v hv
  rw [rsum_farL D hr] at hv
  obtain ⟨l2, _, nd, hm⟩ := ring_row hr
  obtain ⟨hn, e⟩ := rsum_eq hv
  have h1 := sum_sz (n := 28) (l := (r.zip (r.drop 1 ++ r.take 1)).map fun p => ((least hs (direct rd ls)) p.1 p.2).getD 0) (fun x hx => by
    obtain ⟨p, hp, rfl⟩ := List.mem_map.mp hx
    cases ey : least hs (direct rd ls) p.1 p.2 with
    | none => exact Nat.two_pow_pos _
    | some y => exact D.fsz ks _ _ _ ey)
  rw [← e, List.length_map, List.length_zip] at h1
  have l5 : r.length ≤ 5 := Nat.le_trans (nodup_le nd hm) D.h5
  have : min r.length (r.drop 1 ++ r.take 1).length ≤ 5 := Nat.le_trans (Nat.min_le_left _ _) l5
  have h2 := Nat.mul_le_mul_right (2 ^ 28) this
  have p28 : (2 : Nat) ^ 28 = 268435456 := by decide
  have p31 : (2 : Nat) ^ 31 = 2147483648 := by decide
  exact Nat.lt_of_lt_of_le (show v.natAbs < 2 ^ 31 by omega) (Nat.pow_le_pow_right (by decide) (by decide))
theorem not_all (D : Drawn hs ks rd ls off0') (h : ∃ r ∈ rings hs, rsum (farL hs (direct rd ls)) r = none) : ¬ AllSome ⟨hs, ks', rd, ls⟩ := by
  intro ha
  obtain ⟨r, hr, e⟩ := h
  rw [rsum_farL D hr] at e
  have h2 := rsum_some ha hr
  have h2 : rsum (least hs (direct rd ls)) r = _ := h2
  rw [e] at h2
  cases h2
theorem all_of (D : Drawn hs ks rd ls off0') (h : ∀ r ∈ rings hs, ∃ v, rsum (farL hs (direct rd ls)) r = some v) : AllSome ⟨hs, ks', rd, ls⟩ := by
  have key : ∀ a b, a ∈ hs → b ∈ hs → a < b → (∃ v, least hs (direct rd ls) a b = some v) ∧ ∃ v, least hs (direct rd ls) b a = some v := by
    intro a b ha hb c
    have hr := rings_pair ha hb c (by have := D.h2; omega)
    obtain ⟨v, e⟩ := h _ hr
    rw [rsum_farL D hr] at e
    have hn := (rsum_eq e).1
    have e2 : rsteps (least hs (direct rd ls)) [a, b] = [least hs (direct rd ls) a b, least hs (direct rd ls) b a] := rfl
    rw [e2] at hn
    constructor
    · cases e3 : least hs (direct rd ls) a b with
      | none => rw [e3] at hn; exact absurd List.mem_cons_self hn
      | some v => exact ⟨v, rfl⟩
    · cases e3 : least hs (direct rd ls) b a with
      | none => rw [e3] at hn; exact absurd (List.mem_cons_of_mem _ List.mem_cons_self) hn
      | some v => exact ⟨v, rfl⟩
  intro p hp
  obtain ⟨p1, p2, pn⟩ := mem_pairs.mp (show (p.1, p.2) ∈ pairs hs from hp)
  rcases Nat.lt_or_gt_of_ne pn with c | c
  · exact (key _ _ p1 p2 c).1
  · exact (key _ _ p2 p1 c).2
/-- the bound that the law takes -/
theorem law_bd (D : Drawn hs ks rd ls off0') {r : List Nat} {v : Int} (ha : ∀ r ∈ rings hs, ∃ v, rsum (farL hs (direct rd ls)) r = some v) (hb : bestF hs (farL hs (direct rd ls)) = some r) (hv : rsum (farL hs (direct rd ls)) r = some v) : IsBd ⟨hs, ks', rd, ls⟩ (lowF v r.length) := by
  have hr : r ∈ rings hs := by
    rcases best_mem hb with z | z
    · exact z
    · cases z
  rw [best_farL D (ks' := ks')] at hb
  rw [rsum_farL D hr] at hv
  exact ⟨all_of D ha, r, v, hb, hr, hv, rfl⟩
theorem isBd_for {W : Wd} {z : Int × Int} (h : IsBd W z) (fr : Int) : BdFor W fr z := let ⟨ha, r, v, _, hr, hv, e⟩ := h; .inl ⟨ha, r, v, hr, hv, e⟩
theorem isBd_uniq {W : Wd} {a b : Int × Int} (h : IsBd W a) (k : IsBd W b) : a = b := by
  obtain ⟨_, r, v, e1, _, e2, rfl⟩ := h
  obtain ⟨_, r', v', k1, _, k2, rfl⟩ := k
  rw [e1] at k1
  cases k1
  rw [e2] at k2
  cases k2
  rfl
theorem isBd_frt {W : Wd} {z : Int × Int} (h : IsBd W z) : lowF z.1 z.2 = z := by
  obtain ⟨_, r, v, _, hr, _, rfl⟩ := h
  have := (ring_row hr).1
  exact low_low (by omega)
end
end K80

set_option maxHeartbeats 8000000
/-! the law's body, its term -/
namespace K80
open PySem PySem.Spec L2 LamX NdefX
open PyProof.Rows hiding St
abbrev s_law : Stmt := (topS 77)
theorem sc_law : FnScope ["_law_script", "_law_stream", "_law_turn", "_law_drawn", "_law_hands_here", "_law_roads", "_law_letters", "_law_fars", "_law_bound", "_law_k", "_law_work", "_law_taken", "_law_broken", "_law_offsets", "_law_one", "_law_other", "_law_far", "_law_log", "_law_met_here", "_law_odd", "_law_own", "_law_seed", "_law_way", "_law_hand"] ["_law_script"] (defScope s_law) := ⟨rfl, rfl, rfl, by decide +kernel, rfl, by decide +kernel, by decide +kernel⟩
end K80

set_option maxHeartbeats 4000000
/-! what is known within a turn of the law; a lambda made there may be called -/
namespace K80
open PySem PySem.Spec L2 LamX NdefX
open PyProof.Rows hiding St
/-- knowledge with no tables, and without the lists S -/
structure Bs (S : List Addr) (B : Hp) : Prop where
  tb : ∀ b ps, B b ≠ some (.tbl ps)
  ls : ∀ b xs, B b = some (.lst xs) → b ∉ S
section
variable {S : List Addr} {B H H' : Hp} {b st cl : Addr} {xs ys : List V} {n : Nat}
theorem bs_cut : Bs S (cut S H) := by
  refine ⟨fun b ps e => ?_, fun b xs e => ?_⟩
  · obtain ⟨_, ⟨xs, h, _⟩ | h⟩ := cut_cases e
    · cases h
    · cases h
  · obtain ⟨_, ⟨xs, h, h2⟩ | h⟩ := cut_cases e
    · exact h2
    · cases h
theorem Bs.ext (h : Bs S B) (s : Same B H) (k : ExtN H H') : Same B H' := fun b o e => k b o (s b o e) fun ps z => h.tb b ps (z ▸ e)
theorem Bs.mv (h : Bs S B) (s : Same B H) (hs : StAt H st cl n) (m : Mv st cl H H') (h1 : st ∈ S) (h2 : cl ∈ S) : Same B H' := by
  obtain ⟨ns, a, c, k, e1, e2, _⟩ := hs
  intro b o e
  have e0 := s b o e
  refine m b o (fun z => ?_) (fun z => ?_) e0
  · subst z
    rw [e1] at e0
    cases e0
    exact h.ls _ _ e h1
  · subst z
    rw [e2] at e0
    cases e0
    exact h.ls _ _ e h2
theorem Bs.put (h : Bs S B) (s : Same B H) (e : H b = some (.lst ys)) (hb : b ∈ S) : Same B (upd H b (.lst xs)) := fun a o ea => by
  have e0 := s a o ea
  rw [upd_ne]
  · exact e0
  · intro z
    subst z
    rw [e] at e0
    cases e0
    exact h.ls _ _ ea hb
/-- what is known in B is in the cut of a later heap -/
theorem Bs.up (h : Bs S B) (s : Same B H) : Same B (cut S H) := fun b o e => by
  have e0 := s b o e
  cases o with
  | lst xs => exact cut_lst e0 (h.ls _ _ e)
  | tbl ps => exact absurd e (h.tb b ps)
  | _ => exact cut_firm e0 rfl
end
theorem ToldAt.ext {H H' : Hp} {p : Addr} {W : Wd} (s : ExtN H H') (h : ToldAt H p W) : ToldAt H' p W := (cut_told (S := []) h).same fun b o e => by
  obtain ⟨e1, h⟩ := cut_cases e
  refine s _ _ e1 fun ps z => ?_
  subst z
  rcases h with ⟨xs, z, _⟩ | z <;> cases z
theorem StAt.ext {H H' : Hp} {st cl : Addr} {n : Nat} (s : ExtN H H') (h : StAt H st cl n) : StAt H' st cl n :=
  let ⟨ns, a, c, m, e1, e2, r⟩ := h; ⟨ns, a, c, m, s _ _ e1 (fun _ z => by cases z), s _ _ e2 (fun _ z => by cases z), r⟩
/-- the data of a turn -/
structure TD where
  st : Addr
  cl : Addr
  d : Addr
  l : Addr
  r : Addr
  a : Addr
  x : Addr
  m : Addr
  hs : List Nat
  ks : List (Nat × Nat)
  ks' : List (Nat × Nat)
  rd : Nat × Nat → Int × Option Int
  ls : List Lt
  off : Nat → Int
  bd : V
  fr : Int
abbrev TD.W (t : TD) : Wd := ⟨t.hs, t.ks', t.rd, t.ls⟩
abbrev TD.S (t : TD) : List Addr := [t.st, t.cl, t.m]
/-- what is known and stays, of a turn -/
structure Turn (K : PySem.W.Frag) (B : Hp) (t : TD) : Prop where
  dr : DrawnAt B t.d t.l t.r t.a t.hs t.ks t.rd t.ls
  D : Drawn t.hs t.ks t.rd t.ls t.off
  pm : t.ks'.Perm t.ks
  so : t.ks'.Pairwise pLe
  lg : LogAt K B t.x t.W
  bs : Bs t.S B
  bdv : (t.bd = .non ∧ ¬ AllSome t.W) ∨ ∃ c z, t.bd = .ref c ∧ FrAt B c z ∧ IsBd t.W z
  fr0 : 0 ≤ t.fr
  frz : t.fr.natAbs < 2 ^ 400
/-- what is known at a place of a turn -/
structure Now (B : Hp) (t : TD) (P0 : Addr) (n : Nat) (ms : List V) (H : Hp) : Prop where
  base : Same B H
  st : StAt H t.st t.cl n
  ne : t.m ≠ t.st ∧ t.m ≠ t.cl
  m : H t.m = some (.lst ms)
  mt : ∀ v ∈ ms, ∃ p, v = .ref p ∧ ToldAt B p t.W
  tb : ∃ τ, TW τ H ∧ τ P0 = some ("law.<locals>." : Str)
section
variable {K : PySem.W.Frag} {B B' H H' : Hp} {t : TD} {P0 : Addr} {n : Nat} {ms : List V}
theorem FrAt.same' {c : Addr} {z : Int × Int} (s : Same H H') (h : FrAt H c z) : FrAt H' c z := s _ _ h
theorem Turn.same (T : Turn K B t) (s : Same B B') (bs : Bs t.S B') : Turn K B' t :=
  ⟨T.dr.same s, T.D, T.pm, T.so, T.lg.same s, bs, T.bdv.imp id fun ⟨c, z, e, h, k⟩ => ⟨c, z, e, FrAt.same' s h, k⟩, T.fr0, T.frz⟩
/-- all that is known now is known from now on -/
theorem Now.re (T : Turn K B t) (N : Now B t P0 n ms H) : Turn K (cut t.S H) t ∧ Now (cut t.S H) t P0 n ms H :=
  ⟨T.same (T.bs.up N.base) bs_cut, cut_le, N.st, N.ne, N.m, (fun v hv => let ⟨p, e, h⟩ := N.mt v hv; ⟨p, e, h.same (T.bs.up N.base)⟩), N.tb⟩
theorem Now.ext {τ : Tmap} (T : Turn K B t) (N : Now B t P0 n ms H) (s : ExtN H H') (tw : TW τ H') (e : τ P0 = some ("law.<locals>." : Str)) : Now B t P0 n ms H' :=
  ⟨T.bs.ext N.base s, N.st.ext s, N.ne, s _ _ N.m (fun _ z => by cases z), N.mt, τ, tw, e⟩
theorem Now.same (T : Turn K B t) (N : Now B t P0 n ms H) (s : Same H H') : Now B t P0 n ms H' :=
  let ⟨τ, tw, e⟩ := N.tb; N.ext T (extN_same s) (tw.same s) e
theorem TW.mv {τ : Tmap} {st cl : Addr} (t : TW τ H) (hs : StAt H st cl n) (m : Mv st cl H H') : TW τ H' := by
  intro P q e
  obtain ⟨ps, h1, h2, h3⟩ := t P q e
  refine ⟨ps, m.keep hs h1 (fun _ z => by cases z), h2, fun pos cv h => ?_⟩
  obtain ⟨c', P', e1, e2, e3⟩ := h3 pos cv h
  exact ⟨c', P', e1, m.keep hs e2 (fun _ z => by unfold CdO at z; cases z), e3⟩
theorem Now.mv {k : Nat} (T : Turn K B t) (N : Now B t P0 n ms H) (m : Mv t.st t.cl H H') (hs : StAt H' t.st t.cl k) : Now B t P0 k ms H' :=
  let ⟨τ, tw, e⟩ := N.tb
  ⟨T.bs.mv N.base N.st m (by simp [TD.S]) (by simp [TD.S]), hs, N.ne, m _ _ N.ne.1 N.ne.2 N.m, N.mt, τ, tw.mv N.st m, e⟩
theorem TW.put {τ : Tmap} {b : Addr} {xs ys : List V} (t : TW τ H) (e : H b = some (.lst ys)) : TW τ (upd H b (.lst xs)) := by
  intro P q eq
  obtain ⟨ps, h1, h2, h3⟩ := t P q eq
  refine ⟨ps, ?_, h2, fun pos cv h => ?_⟩
  · rw [upd_ne]
    · exact h1
    · intro z
      subst z
      rw [e] at h1
      cases h1
  · obtain ⟨c', P', e1, e2, e3⟩ := h3 pos cv h
    refine ⟨c', P', e1, ?_, e3⟩
    rw [upd_ne]
    · exact e2
    · intro z
      subst z
      rw [e] at e2
      unfold CdO at e2
      cases e2
theorem StAt.put {st cl b : Addr} {xs : List V} (h : StAt H st cl n) (n1 : b ≠ st) (n2 : b ≠ cl) : StAt (upd H b (.lst xs)) st cl n :=
  let ⟨ns, a, c, m, e1, e2, r⟩ := h; ⟨ns, a, c, m, (upd_ne n1.symm).trans e1, (upd_ne n2.symm).trans e2, r⟩
theorem Now.wd (T : Turn K B t) : WdOk t.W := T.D.ok T.pm T.so
end
section
variable {X : Cx} {pins : List (Addr × Obj)} {σ : L2.St} {H : Hp} {s : Shared} {CX : CXT} {N ps fr : List Str} {js : List Nat} {params : Arguments} {body : Expr} {scope : Scope} {f c' P' : Addr} {k : Nat} {sp : Sp}
/-- a lambda that was made here may be called -/
theorem cb_lam (I : Inv X pins σ H s) (nfs : ∀ y c, X.env.cells.lookup y = some c → c ∉ X.fs) (hf : H f = some (LamO f (lfOf X params body scope c'))) (hc : H c' = some (CdO c' (X.env.qual ++ ("<lambda>" : Str)) P'))
    (hfree : ∀ y ∈ scope.names, y.2 = .free → X.env.scope.names.lookup y.1 = some .cell ∨ X.env.scope.names.lookup y.1 = some .free) (S : NScope N ps fr scope) (hfr : ∀ y ∈ fr, (y, NameKind.free) ∈ scope.names) (hjs : js.map (fun j => X.N[j]?) = fr.map some)
    (hb : ∀ (us : List Value), us.length = ps.length → ∀ pm cv ctv, bindArgs (PySem.W.kla_fn "<lambda>" (X.env.qual ++ ("<lambda>" : Str)) params body scope (cloFrom X.env.cells scope.names []) pm cv ctv) ⟨us, []⟩ = pure (ps.zip us)) (len : ∀ vs H Q E, sp vs H Q E → vs.length = ps.length)
    (hbody : ∀ (A : Around) (outer : List Env) (s' : Shared) (H' : Hp) (vs : List V) (Q : VK) (E : XK), Room k (A.deeper (envF (lfOf X params body scope c').nf f s'.heap.objs.size)) → (∀ y c, (lfOf X params body scope c').cl.lookup y = some c → c ∉ frs outer) → KeepE H H' → sp vs H' Q E →
      ∃ te, PE (ncx CX X.prog X.w X.K X.mg X.base N (lfOf X params body scope c').nf f A outer s' H' E) body te ∧ te (startF N vs (js.map (slotAt σ))) H' Q) : Cb X.prog X.w X.K X.mg X.base CX (k + 1) f sp X.stack s H :=
  have cp := Caps.made I.ok hfree hfr hjs
  cb_make (F := lfOf X params body scope c') I cp (fun y c e => nfs y c (cp.sub y c e)) hf hc S hb len hbody
/-- the cells of a def's frame are its own -/
theorem nfs_def (I : Inv X pins σ H s) (hfn : ∀ x, X.fn x = true) : ∀ y c, X.env.cells.lookup y = some c → c ∉ X.fs := fun y c e hm => by
  obtain ⟨_, o, ho, _⟩ := I.ok.funs.mem hm
  exact Nat.not_le_of_lt (Heap.lt_size ho) (I.ok.cab y c (hfn y) e)
end
end K80

set_option maxHeartbeats 4000000
/-! the check of what breaks the clocks holds; a log heard is kept -/
namespace K80
open PySem PySem.Spec L2 LamX NdefX
open PyProof.Rows hiding St
section
variable {K : PySem.W.Frag} {B B' H H' : Hp} {t : TD} {P0 : Addr} {n : Nat} {ms : List V}
theorem br_call (T : Turn K B t) (s : Same B H) {way seed fr : Int} {tk p o : Addr} {off tn : Nat → Int} {tq : Int} {i j : Nat} {Q : VK} {E : XK} (f0 : 0 ≤ fr) (fz : fr.natAbs < 2 ^ 400) (tkr : RdK H tk t.hs (corrF way seed t.W)) (hk : TkOk t.hs tn tq)
    (hc : ∀ h ∈ t.hs, Sz 2000 (corrF way seed t.W h) ∧ lowF (corrF way seed t.W h).1 (corrF way seed t.W h).2 = frT tn tq h)
    (hp : H p = some (.tup [.ref o, hv i, hv j])) (ho : RdK H o t.hs (fun h => (off h, 1))) (Bk : Brk t.W tn tq fr off i j) (q : ∀ H', Same H H' → Q (.bl true) H') : spLBr [.ref t.d, .ref tk, .int fr, .ref p, t.bd] H Q E := by
  have D := T.D
  have ok := Now.wd T
  have zo := brk_sz ok hk fz Bk
  obtain ⟨hi, hj, hij⟩ := brk_mem Bk
  have hi : i ∈ t.hs := hi
  have hj : j ∈ t.hs := hj
  obtain ⟨hd, hl, hr, ha⟩ := T.dr.same s
  have hcan := brk_fit D Bk
  have key : ∃ b, ((t.bd = .non ∧ b = (fr, 1)) ∨ ∃ c, t.bd = .ref c ∧ FrAt H c b) ∧ BdFor t.W fr b := by
    rcases T.bdv with ⟨e, na⟩ | ⟨c, z, e, hz, hb⟩
    · exact ⟨(fr, 1), .inl ⟨e, rfl⟩, .inr ⟨na, rfl⟩⟩
    · exact ⟨z, .inr ⟨c, e, FrAt.same' s hz⟩, isBd_for hb fr⟩
  obtain ⟨b, hb1, hb2⟩ := key
  obtain ⟨z1, z2, z3⟩ := ap_sz zo hk hi hj
  have ei := (hc i hi).2
  have ej := (hc j hj).2
  refine ⟨t.d, tk, p, t.l, t.r, t.a, o, i, j, fr, t.bd, b, t.hs, t.hs, t.ks, t.rd, t.ls, (fun h => (off h, 1)), corrF way seed t.W, rfl, hd, hp, hl, hr, ha, ho, tkr, hb1, ⟨Nat.le_trans D.h5 (by decide), D.h6, fun h hh => ⟨sz_one (zo h hh), low_one (off h)⟩⟩, hi, hj, hij,
    ⟨fun l hl => (D.lt l hl).1, fun k hk => ⟨(D.prs.2.2 k hk).1, (D.prs.2.2 k hk).2.1⟩, fun l hl => can_fit D hcan zo hl⟩, ⟨D.nd, Nat.le_trans D.h5 (by decide), D.h6, fun h hh => (hc h hh).1, fun h => Iff.rfl⟩, ?_, q⟩
  rw [ei, ej]
  exact ⟨⟨tk_sz hk hi, tk_sz hk hj⟩, ⟨z1, z2⟩, bd_sz ok fz hb2, z3, brk_below hk Bk hb2⟩
/-- one log more is heard -/
theorem Now.push {p : Addr} (T : Turn K B t) (N : Now B t P0 n ms H) (h : ToldAt H p t.W) : Turn K (cut t.S H) t ∧ Now (cut t.S H) t P0 n (ms ++ [.ref p]) (upd H t.m (.lst (ms ++ [.ref p]))) := by
  obtain ⟨T2, N2⟩ := Now.re T N
  obtain ⟨τ, tw, e⟩ := N.tb
  refine ⟨T2, T2.bs.put N2.base N.m (by simp [TD.S]), N.st.put N.ne.1 N.ne.2, N.ne, upd_same, fun v hv => ?_, τ, tw.put N.m, e⟩
  rcases List.mem_append.mp hv with z | z
  · exact N2.mt v z
  · simp at z
    exact ⟨p, z, cut_told h⟩
theorem keepE_put {b : Addr} {xs ys : List V} (e : H b = some (.lst ys)) : KeepE H (upd H b (.lst xs)) := fun a φ ea => by
  rw [upd_ne]
  · exact ea
  · intro z
    subst z
    rw [e] at ea
    cases ea
theorem keepE_ext (s : ExtN H H') : KeepE H H' := fun b φ e => s b _ e fun _ z => by cases z
theorem keepE_mv {st cl : Addr} (hs : StAt H st cl n) (m : Mv st cl H H') : KeepE H H' := fun b φ e => m.keep hs e fun _ z => by cases z
theorem told_call (T : Turn K B t) (s : Same B H) {Q : VK} {E : XK} (q : ∀ p H', Same H H' → H p = none → ToldAt H' p t.W → Q (.ref p) H') : spLTold [.ref t.l, .ref t.r, .ref t.a] H Q E := by
  have D := T.D
  obtain ⟨hd, hl, hr, ha⟩ := T.dr.same s
  have lz := D.lz
  have h5 := D.h5
  refine ⟨t.l, t.r, t.a, t.hs, t.ks, t.rd, t.ls, rfl, hl, hr, ha, D.prs.1, D.prs.2.1, fun k hk => ⟨D.h6 _ (D.prs.2.2 k hk).1, D.h6 _ (D.prs.2.2 k hk).2.1⟩, by omega, by omega, fun p H' ks' s' np pm so h => ?_⟩
  have e : ks' = t.ks' := pLe_uniq (pm.trans T.pm.symm) so T.so
  subst e
  exact q p H' s' np h
/-- the work's promise: what it is told of is kept, and answered by a correction -/
def spWork (W : Wd) (m : Addr) (way seed : Int) : Sp := fun vs H Q _ => ∃ p xs, vs = [.ref p] ∧ ToldAt H p W ∧ H m = some (.lst xs) ∧ xs.length ≤ 1000 ∧ ∀ q H2, Same (upd H m (.lst (xs ++ [.ref p]))) H2 → RdK H2 q W.hs (corrF way seed W) → Q (.ref q) H2
theorem work_after (T : Turn K B t) (N : Now B t P0 n ms H) {way seed fr : Int} {p : Addr} (w0 : 0 ≤ way) (w6 : way < 6) (h : ToldAt H p t.W) (lm : ms.length ≤ 1000) {Q Q' : VK} {E E' : XK}
    (k : ∀ v H2, AfterWork K t.x t.W fr Q E H v H2 → Q' v H2)
    (q : ∀ b o i j off tn tq H2 H3, Same (upd H t.m (.lst (ms ++ [.ref p]))) H2 → Same H2 H3 → TkOk t.hs tn tq → (∀ h ∈ t.hs, Sz 2000 (corrF way seed t.W h) ∧ lowF (corrF way seed t.W h).1 (corrF way seed t.W h).2 = frT tn tq h) →
      H3 b = some (.tup [.ref o, hv i, hv j]) → RdK H3 o t.hs (fun h => (off h, 1)) → Brk t.W tn tq fr off i j → Q (.ref b) H3) : spWork t.W t.m way seed [.ref p] H Q' E' := by
  refine ⟨p, ms, rfl, h, N.m, lm, fun a H2 s2 hR => k _ _ ?_⟩
  obtain ⟨tn, tq, tk, hc⟩ := corr_ok (ks' := t.ks') (seed := seed) T.D w0 w6
  obtain ⟨T2, N2⟩ := Now.push T N h
  refine ⟨T2.lg.same (N2.base.trans s2), (keepE_put N.m).trans (keepE_same s2), .inl ⟨a, corrF way seed t.W, tn, tq, rfl, hR, hc, tk, fun b o i j off H3 s3 hb ho Bk => ?_⟩⟩
  exact q b o i j off tn tq H2 H3 s2 s3 tk hc hb ho Bk
end
end K80

set_option maxHeartbeats 8000000
/-! a turn of the law: work asked twice, two times -/
namespace K80
open PySem PySem.Spec L2 LamX NdefX
open PyProof.Rows hiding St
def forB : Stmt → List Stmt
  | .For _ _ b _ _ => b
  | _ => []
/-- the i-th statement of a turn -/
def tS (i : Nat) : Stmt := (forB ((defBody s_law).getD 1 (.Pass ⟨0, 0, 0, 0⟩))).getD i (.Pass ⟨0, 0, 0, 0⟩)
/-- the names' values within a turn -/
def SlT (t : TD) (σ : L2.St) : Prop := ∃ v0 v2 v7 v9 v10 v11 v12 v13 v14 v15 v19 v20 v21 v22, σ = [v0, some (.ref t.st), v2, some (.ref t.d), some (.ref t.l), some (.ref t.r), some (.ref t.a), v7, some t.bd, v9, v10, v11, v12, v13, v14, v15, some (.int t.fr), some (.ref t.x), some (.ref t.m), v19, v20, v21, v22, none]
/-- .. between two of its statements -/
def Mid (K : PySem.W.Frag) (P0 : Addr) (n k : Nat) (σ : L2.St) (H : Hp) : Prop := ∃ B t ms, Turn K B t ∧ Now B t P0 n ms H ∧ ms.length = k ∧ SlT t σ
abbrev LX (P : Program) (w : World) (K : PySem.W.Frag) (mg : Str → Option Value) (base : Heap) (g c0 : Addr) (A : Around) (outer : List Env) (s : Shared) (H0 : Hp) (E : XK) : Cx := (cxOf (L2.CX P w) P w K mg base ["_law_script", "_law_stream", "_law_turn", "_law_drawn", "_law_hands_here", "_law_roads", "_law_letters", "_law_fars", "_law_bound", "_law_k", "_law_work", "_law_taken", "_law_broken", "_law_offsets", "_law_one", "_law_other", "_law_far", "_law_log", "_law_met_here", "_law_odd", "_law_own", "_law_seed", "_law_way", "_law_hand"] "law" (defScope s_law) g (.ref c0) A outer s H0 E).nox
theorem nil_go {σ : L2.St} {H : Hp} {Q : List V → Hp → Prop} (h : Q [] H) : tNil σ H Q := h
section
variable {P : Program} {w : World} {K : PySem.W.Frag} {mg : Str → Option Value} {base : Heap}
theorem p_k (T : Txt K mg) {P0 c0 : Addr} (B0 : base.BuiltinsAt mg P0) (CH : PySem.W.CodeHd base c0 P0) {g : Addr} {A : Around} {outer : List Env} {s : Shared} {H0 : Hp} {E : XK} (hr : Room 14 (A.deeper (envOfC "law" (defScope s_law) s.heap.objs.size g (.ref c0)))) :
    ∃ t, PS (LX P w K mg base g c0 A outer s H0 E) (tS 4) t ∧ ∀ (n : Nat) (D : Ends) (σ : L2.St) (H : Hp), Mid K P0 (n + 4) 0 σ H → (∀ σ' H', Mid K P0 n 4 σ' H' → D.nx σ' H') → t D σ H := by
  have BC3 : CallOkS P w K mg base 8 7 "break_clocks" ["log", "work", "far"] [] (spBC K) := (ok_bc T).1
  have BC2 : CallOkS P w K mg base 8 7 "break_clocks" ["log", "work", "far"] [.int 0] (spBC K) := (ok_bc T).2
  have C__law_draw : CallOk P w K mg base CX0 1 "_law_draw" ["_law_stream", "_law_many"] [] spDraw := ok_draw T
  have C__law_told_log : CallOk P w K mg base CX0 2 "_law_told_log" ["_law_hands_here", "_law_roads", "_law_letters"] [] spLTold := ok_l_told T
  have C__law_correction : CallOk P w K mg base CX0 1 "_law_correction" ["_law_way", "_law_seed", "_law_seen"] [] spLCor := ok_l_cor T
  have C__law_broken_right : CallOk P w K mg base CX0 4 "_law_broken_right" ["_law_drawn", "_law_taken", "_law_far", "_law_broken", "_law_bound"] [] spLBr := ok_l_broken T
  refine ⟨_, (ps_for PassesOwn.never rfl (pi_range1 (by rfl) T.f_range (pa_cons (pe_int) pa_nil)) (pg_name (i := 9) sc_law.nd rfl (.inl rfl))
      (pss_cons (ps_asg (pe_tup (pa_cons (pe_callT C__law_draw (hr.mono (by decide)) (by rfl) pass0 (pa_cons (pv 1) (pa_cons (pe_int) pa_nil))) (pa_cons (pe_callT C__law_draw (hr.mono (by decide)) (by rfl) pass0 (pa_cons (pv 1) (pa_cons (pe_int) pa_nil))) pa_nil))) (pg_tupK (K := K) rfl rfl (pgs_cons (pg_name (i := 22) sc_law.nd rfl (.inr rfl)) (pgs_cons (pg_name (i := 21) sc_law.nd rfl (.inr rfl)) pgs_nil))))
      (pss_cons (ps_set (i := 10) sc_law.nd rfl (.inl rfl) (pe_lamW B0 (by rfl) (by rfl) (ndef_free (sc := defScope (topS 77)) (fr := []) (by decide +kernel))))
      (pss_cons (ps_set (i := 11) sc_law.nd rfl (.inl rfl) (pe_callT C__law_correction (hr.mono (by decide)) (by rfl) pass0 (pa_cons (pv 22) (pa_cons (pv 21) (pa_cons (pe_callT C__law_told_log (hr.mono (by decide)) (by rfl) pass0 (pa_cons (pv 4) (pa_cons (pv 5) (pa_cons (pv 6) pa_nil)))) pa_nil)))))
      (pss_cons (ps_set (i := 12) sc_law.nd rfl (.inl rfl) (K80.pe_callS BC3 (hr.mono (by decide)) (by rfl) (passes_call L2.takes0 fun _ _ _ _ h => h) (pa_cons (pv 17) (pa_cons (pv 10) (pa_cons (pv 16) pa_nil)))))
      (pss_cons (ps_if (pt_not (pt_val (pe_callT C__law_broken_right (hr.mono (by decide)) (by rfl) pass0 (pa_cons (pv 3) (pa_cons (pv 11) (pa_cons (pv 16) (pa_cons (pv 12) (pa_cons (pv 8) pa_nil)))))))) (pss_one (ps_ret (pe_bl))) pss_nil)
      (pss_one (ps_if (pt_not (pt_val (pe_callT C__law_broken_right (hr.mono (by decide)) (by rfl) pass0 (pa_cons (pv 3) (pa_cons (pv 11) (pa_cons (pe_int) (pa_cons (K80.pe_callS BC2 (hr.mono (by decide)) (by rfl) (passes_call L2.takes0 fun _ _ _ _ h => h) (pa_cons (pv 17) (pa_cons (pv 10) pa_nil))) (pa_cons (pv 8) pa_nil)))))))) (pss_one (ps_ret (pe_bl))) pss_nil)))))))), fun n D σ H h q => ?_⟩
  obtain ⟨B, t, ms, TU, NO, lm, ⟨v0, v2, v7, v9, v10, v11, v12, v13, v14, v15, v19, v20, v21, v22, rfl⟩⟩ := h
  refine ⟨_, rfl, by decide, by decide, ?_⟩
  refine for_range (fun i σ H' => Mid K P0 (n + 4 - 2 * i) (2 * i) σ H') ⟨B, t, ms, TU, NO, lm, _, _, _, _, _, _, _, _, _, _, _, _, _, _, rfl⟩ ?_ (fun σ H' h => q σ H' (by simpa using h))
  clear TU NO lm
  clear B t ms v0 v2 v7 v9 v10 v11 v12 v13 v14 v15 v19 v20 v21 v22
  rintro i σ1 H1 hi ⟨B, t, ms, TU, NO, lm, ⟨v0, v2, v7, v9, v10, v11, v12, v13, v14, v15, v19, v20, v21, v22, rfl⟩⟩
  obtain ⟨k, ek, ek2⟩ : ∃ k, n + 4 - 2 * i = k + 1 + 1 ∧ n + 4 - 2 * (i + 1) = k := ⟨n + 2 - 2 * i, by omega, by omega⟩
  rw [ek] at NO
  rw [ek2]
  refine ⟨_, rfl, t.st, t.cl, 6, k + 1, rfl, by decide, by decide, NO.st, fun way H2 w0 w6 mv2 st2 => ?_⟩
  have N2 := NO.mv TU mv2 st2
  refine ⟨_, rfl, t.st, t.cl, 1000, k, rfl, by decide, by decide, N2.st, fun seed H3 s0 s1' mv3 st3 => ?_⟩
  have N3 := N2.mv TU mv3 st3
  clear N2 NO mv2 mv3 st2 st3
  refine ⟨by show 2 ≤ sizeLine; decide, fun p np => ⟨p, [.int way, .int seed], rfl, .of upd_same, rfl, _, _, rfl, _, _, rfl, rfl, ?_⟩⟩
  have N4 := N3.same TU (same_new (o := .tup [.int way, .int seed]) np)
  generalize upd H3 p (.tup [.int way, .int seed]) = H4 at N4 ⊢
  obtain ⟨τ, tw, eτ⟩ := N4.tb
  refine ⟨τ, P0, tw, eτ, .inl CH, fun f c' P' τ' H5 L => ?_⟩
  have N5 := N4.ext TU L.ex L.tw (L.le _ _ eτ)
  have D := TU.D
  have CB : ∀ (σ' : L2.St) (H' : Hp) (pins : List (Addr × Obj)) (s1 : Shared), Inv (LX P w K mg base g c0 A outer s H0 E) pins σ' H' s1 → KeepE H5 H' → [18, 21, 22].map (slotAt σ') = [some (.ref t.m), some (.int seed), some (.int way)] → Cb P w K mg base (L2.CX P w) 7 f (spWork t.W t.m way seed) (LX P w K mg base g c0 A outer s H0 E).stack s1 H' := by
    intro σ' H' pins s1 I ke es
    refine cb_lam (X := LX P w K mg base g c0 A outer s H0 E) (N := ["_law_seen", "_law_met_here", "_law_seed", "_law_way"]) (ps := ["_law_seen"]) (fr := ["_law_met_here", "_law_seed", "_law_way"]) (js := [18, 21, 22]) (k := 6) I (nfs_def I fun _ => rfl) (ke _ _ L.fn) (ke _ _ L.co) (ndef_free (sc := defScope s_law) (fr := []) (by decide +kernel)) (nscope_by (by decide +kernel)) (by decide) (by rfl) (fun us hl _ _ _ => match us, hl with | [_], _ => rfl) (fun vs H Q E h => by obtain ⟨p, xs, rfl, _⟩ := h; rfl) (fun A1 outer1 s2 H1 vs Q E1 hr1 nf ke1 h => ?_)
    obtain ⟨p, xs, rfl, h1, hm, hz, q⟩ := h
    rw [es]
    refine ⟨_, pe_ix (ix_listK (K := K) rfl) (pe_lst (pa_cons (pe_bmK (K := K) rfl PySem.F.plainAttrs_list PySem.F.slot_list_append PySem.F.type_list_append mt_append (pv 1) (pa_cons (pv 0) pa_nil)) (pa_cons (pe_callT C__law_correction (hr1.mono (by decide)) (by rfl) pass0 (pa_cons (pv 3) (pa_cons (pv 2) (pa_cons (pv 0) pa_nil)))) pa_nil))) pe_int (fun _ _ => rfl), ?_⟩
    refine ⟨_, rfl, .inl ⟨rfl, _, .of hm⟩, _, rfl, t.m, xs, .ref p, rfl, rfl, hm, Nat.lt_of_le_of_lt hz (by decide), ?_⟩
    have hne : t.m ≠ p := fun z => by
      obtain ⟨_, _, _, e, _⟩ := h1
      rw [← z, hm] at e
      cases e
    have h2 : ToldAt (upd H1 t.m (.lst (xs ++ [.ref p]))) p t.W := (cut_told (S := [t.m]) h1).same (bs_cut.put cut_le hm (by simp))
    refine ⟨_, rfl, _, rfl, _, rfl, way, seed, p, t.W, rfl, w0, w6, ⟨s0, s1', (Now.wd TU).prs.2.1, D.h6⟩, h2, D.nd, Nat.le_trans D.h5 (by decide), fun l hl => let z := D.prs.2.2 _ (D.lt l hl).1; ⟨z.1, z.2.1⟩, fun p3 H3' s3 n3 r3 => ?_⟩
    refine ⟨by show 2 ≤ sizeLine; decide, fun L1 nL => ⟨L1, _, 1, _, rfl, rfl, .of upd_same, rfl, ?_⟩⟩
    have sL := same_new (o := .lst [.non, .ref p3]) nL
    exact q p3 _ (s3.trans sL) (r3.same sL)
  refine ⟨_, rfl, _, rfl, _, rfl, _, rfl, _, rfl, nil_go ?_⟩
  refine told_call TU N5.base fun p2 H6 s6 n6 h6 => nil_go ?_
  have N6 := N5.same TU s6
  refine ⟨way, seed, p2, t.W, rfl, w0, w6, ⟨s0, s1', (Now.wd TU).prs.2.1, D.h6⟩, h6, D.nd, Nat.le_trans D.h5 (by decide), fun l hl => let z := D.prs.2.2 _ (D.lt l hl).1; ⟨z.1, z.2.1⟩, fun p3 H7 s7 n7 r7 => ?_⟩
  have N7 := N6.same TU s7
  refine ⟨_, rfl, _, rfl, _, rfl, f, spWork t.W t.m way seed, fun pins s1 I => CB _ _ _ _ I (keepE_same (s6.trans s7)) rfl, t.x, t.W, _, rfl, TU.lg.same N7.base, Now.wd TU, .inr ⟨t.fr, rfl, TU.fr0, TU.frz, fun p4 H8 s8 n8 h8 Q1 k1 => ?_⟩⟩
  have N8 := N7.same TU s8
  refine work_after TU N8 w0 w6 h8 (by omega) k1 fun b o i' j off tn tq H9 H10 s9 s10 tk hc hb ho Bk => ?_
  obtain ⟨TU9, N9⟩ := N8.push TU h8
  have N10 := N9.same TU9 (s9.trans s10)
  have r10 := (cut_rdk (S := t.S) (r7.same s8)).same ((bs_cut.put cut_le N8.m (by simp [TD.S])).trans (s9.trans s10))
  have ke10 : KeepE H5 H10 := ((keepE_same ((s6.trans s7).trans s8)).trans (keepE_put N8.m)).trans (keepE_same (s9.trans s10))
  clear s9 s10 N9 N8 N7 N6 N5 N4 N3 r7
  refine ⟨_, rfl, _, rfl, _, rfl, _, rfl, _, rfl, nil_go ?_⟩
  refine br_call TU9 N10.base TU.fr0 TU.frz r10 tk hc hb ho Bk fun H11 s11 => ⟨_, rfl, ?_⟩
  have N11 := N10.same TU9 s11
  refine ⟨_, rfl, _, rfl, _, rfl, _, rfl, f, spWork t.W t.m way seed, fun pins s1 I => CB _ _ _ _ I (ke10.trans (keepE_same s11)) rfl, t.x, t.W, _, rfl, TU9.lg.same N11.base, Now.wd TU, .inr ⟨0, rfl, Int.le_refl _, Nat.two_pow_pos _, fun p5 H12 s12 n12 h12 Q2 k2 => ?_⟩⟩
  have N12 := N11.same TU9 s12
  refine work_after TU9 N12 w0 w6 h12 (by rw [List.length_append]; simp; omega) k2 fun b2 o2 i2 j2 off2 tn2 tq2 H13 H14 s13 s14 tk2 hc2 hb2 ho2 Bk2 => ?_
  obtain ⟨TU13, N13⟩ := N12.push TU9 h12
  have N14 := N13.same TU13 (s13.trans s14)
  have r14 := (cut_rdk (S := t.S) (r10.same (s11.trans s12))).same ((bs_cut.put cut_le N12.m (by simp [TD.S])).trans (s13.trans s14))
  refine ⟨_, rfl, nil_go ?_⟩
  refine br_call TU13 N14.base (Int.le_refl _) (Nat.two_pow_pos _) r14 tk2 hc2 hb2 ho2 Bk2 fun H15 s15 => ⟨_, rfl, ?_⟩
  exact ⟨_, t, _, TU13, N14.same TU13 s15, by simp; omega, _, _, _, _, _, _, _, _, _, _, _, _, _, _, rfl⟩
end
end K80

set_option maxHeartbeats 8000000
/-! a turn of the law: what work heard; the package's own correction -/
namespace K80
open PySem PySem.Spec L2 LamX NdefX
open PyProof.Rows hiding St
/-- .. behind the own correction -/
def MidO (K : PySem.W.Frag) (P0 : Addr) (n : Nat) (σ : L2.St) (H : Hp) : Prop := ∃ B t ms, Turn K B t ∧ Now B t P0 n ms H ∧ SlT t σ ∧
  ((σ[20]? = some (some .non)) ∨ ∃ p z, σ[20]? = some (some (.ref p)) ∧ RdK B p t.hs (frT (corF t.W z) z.2) ∧ IsBd t.W z)
section
variable {P : Program} {w : World} {K : PySem.W.Frag} {mg : Str → Option Value} {base : Heap}
theorem pr_all {R : V → V → Prop} {y : V} : ∀ {xs : List V}, (∀ x ∈ xs, R x y) → Paired R xs (List.replicate xs.length y)
  | [], _ => .nil
  | x :: l, h => .cons (h x List.mem_cons_self) (pr_all fun z hz => h z (List.mem_cons_of_mem _ hz))
theorem p_same (T : Txt K mg) {P0 c0 : Addr} {g : Addr} {A : Around} {outer : List Env} {s : Shared} {H0 : Hp} {E : XK} (hr : Room 14 (A.deeper (envOfC "law" (defScope s_law) s.heap.objs.size g (.ref c0)))) :
    ∃ t, PS (LX P w K mg base g c0 A outer s H0 E) (tS 5) t ∧ ∀ (n : Nat) (D : Ends) (σ : L2.St) (H : Hp), Mid K P0 n 4 σ H → (∀ σ' H', Mid K P0 n 4 σ' H' → D.nx σ' H') → t D σ H := by
  have C__law_same : CallOk P w K mg base CX0 6 "_law_same" ["_law_found", "_law_due"] [] (spSm (Sm 5)) := ok_same T 5
  have C__law_told_log : CallOk P w K mg base CX0 2 "_law_told_log" ["_law_hands_here", "_law_roads", "_law_letters"] [] spLTold := ok_l_told T
  refine ⟨_, (ps_if (pt_not (pt_val (pe_callT C__law_same (hr.mono (by decide)) (by rfl) pass0 (pa_cons (pv 18) (pa_cons (pe_op op_rep (pe_lst (pa_cons (pe_callT C__law_told_log (hr.mono (by decide)) (by rfl) pass0 (pa_cons (pv 4) (pa_cons (pv 5) (pa_cons (pv 6) pa_nil)))) pa_nil)) (pe_int)) pa_nil))))) (pss_one (ps_ret (pe_bl))) pss_nil), fun n D σ H h q => ?_⟩
  obtain ⟨B, t, ms, TU, NO, lm, ⟨v0, v2, v7, v9, v10, v11, v12, v13, v14, v15, v19, v20, v21, v22, rfl⟩⟩ := h
  refine ⟨_, rfl, _, rfl, _, rfl, _, rfl, nil_go ?_⟩
  refine told_call TU NO.base fun p H1 s1 n1 h1 => nil_go ?_
  refine ⟨by show 1 ≤ sizeLine; decide, fun L nL => ⟨L, 4, [.ref p], rfl, rfl, upd_same, by decide, by decide, by show 4 ≤ sizeLine; decide, fun R nR => nil_go ?_⟩⟩
  have sL := same_new (o := .lst [.ref p]) nL
  have sR := same_new (o := .lst (List.replicate (4 : Int).toNat [V.ref p]).flatten) nR
  have s3 := s1.trans (sL.trans sR)
  have N3 := NO.same TU s3
  have h3 := h1.same (sL.trans sR)
  have D' := TU.D
  have hz : t.W.hs.length ≤ 1000 ∧ t.W.ks.length ≤ 1000 ∧ t.W.ls.length ≤ 1000 := ⟨Nat.le_trans D'.h5 (by decide), (Now.wd TU).prs.2.1, Nat.le_trans D'.lz (by decide)⟩
  have er : (upd (upd H1 L (.lst [.ref p])) R (.lst (List.replicate (4 : Int).toNat [V.ref p]).flatten)) R = some (.lst (List.replicate ms.length (V.ref p))) := by rw [upd_same, lm]; rfl
  refine ⟨_, _, rfl, .inr (.inl ⟨t.m, R, ms, _, rfl, rfl, by omega, .inl ⟨N3.m, er⟩, pr_all fun x hx => ?_⟩), fun H4 s4 => ⟨_, rfl, ?_⟩⟩
  · obtain ⟨p2, rfl, hp2⟩ := N3.mt x hx
    exact sm_told hz (hp2.same N3.base) h3
  · exact q _ _ ⟨B, t, ms, TU, N3.same TU s4, lm, _, _, _, _, _, _, _, _, _, _, _, _, _, _, rfl⟩
theorem p_own (T : Txt K mg) {P0 c0 : Addr} {g : Addr} {A : Around} {outer : List Env} {s : Shared} {H0 : Hp} {E : XK} (hr : Room 14 (A.deeper (envOfC "law" (defScope s_law) s.heap.objs.size g (.ref c0)))) :
    ∃ t, PS (LX P w K mg base g c0 A outer s H0 E) (tS 6) t ∧ ∀ (n : Nat) (D : Ends) (σ : L2.St) (H : Hp), Mid K P0 n 4 σ H → (∀ σ' H', MidO K P0 n σ' H' → D.nx σ' H') → t D σ H := by
  have C_corrected : CallOk P w K mg base CX0 4 "corrected" ["log"] [] (spCor K) := ok_cor T
  refine ⟨_, (ps_set (i := 20) sc_law.nd rfl (.inr rfl) (pe_callT C_corrected (hr.mono (by decide)) (by rfl) pass0 (pa_cons (pv 17) pa_nil))), fun n D σ H h q => ?_⟩
  obtain ⟨B, t, ms, TU, NO, lm, ⟨v0, v2, v7, v9, v10, v11, v12, v13, v14, v15, v19, v20, v21, v22, rfl⟩⟩ := h
  refine ⟨_, rfl, nil_go ?_⟩
  refine ⟨t.x, t.W, rfl, TU.lg.same NO.base, Now.wd TU, fun H1 s1 _ => ?_, fun p H1 z s1 n1 hz hR => ?_⟩
  · exact q _ _ ⟨B, t, ms, TU, NO.same TU s1, ⟨_, _, _, _, _, _, _, _, _, _, _, _, _, _, rfl⟩, .inl rfl⟩
  · obtain ⟨TU2, N2⟩ := (NO.same TU s1).re TU
    exact q _ _ ⟨_, t, ms, TU2, N2, ⟨_, _, _, _, _, _, _, _, _, _, _, _, _, _, rfl⟩, .inr ⟨p, z, rfl, cut_rdk hR, hz⟩⟩
theorem p_own2 (T : Txt K mg) {P0 c0 : Addr} (B0 : base.BuiltinsAt mg P0) (CH : PySem.W.CodeHd base c0 P0) {g : Addr} {A : Around} {outer : List Env} {s : Shared} {H0 : Hp} {E : XK} (hr : Room 14 (A.deeper (envOfC "law" (defScope s_law) s.heap.objs.size g (.ref c0)))) :
    ∃ t, PS (LX P w K mg base g c0 A outer s H0 E) (tS 7) t ∧ ∀ (n : Nat) (D : Ends) (σ : L2.St) (H : Hp), MidO K P0 n σ H → (∀ σ' H' k, Mid K P0 n k σ' H' → D.nx σ' H') → t D σ H := by
  have BC2 : CallOkS P w K mg base 8 7 "break_clocks" ["log", "work", "far"] [.int 0] (spBC K) := (ok_bc T).2
  have C_apart : CallOk P w K mg base CX0 5 "apart" ["log", "offsets", "correction", "one", "other"] [] (spApart K) := ok_apart T
  refine ⟨_, (ps_if (pt_cmpR op_notN (pv 20) (pe_non) (nomark _)) (pss_cons (ps_asg (K80.pe_callS BC2 (hr.mono (by decide)) (by rfl) (passes_call L2.takes0 fun _ _ _ _ h => h) (pa_cons (pv 17) (pa_cons (pe_lamW B0 (by rfl) (by rfl) (ndef_free (sc := defScope (topS 77)) (fr := []) (by decide +kernel))) pa_nil))) (pg_tupK (K := K) rfl rfl (pgs_cons (pg_name (i := 13) sc_law.nd rfl (.inl rfl)) (pgs_cons (pg_name (i := 14) sc_law.nd rfl (.inl rfl)) (pgs_cons (pg_name (i := 15) sc_law.nd rfl (.inl rfl)) pgs_nil)))))
      (pss_one (ps_if (pt_cmpR (op_neDK (K := K) rfl (deep64 hr)) (pe_callT C_apart (hr.mono (by decide)) (by rfl) pass0 (pa_cons (pv 17) (pa_cons (pv 13) (pa_cons (pv 20) (pa_cons (pv 14) (pa_cons (pv 15) pa_nil)))))) (pv 8) (nomark _)) (pss_one (ps_ret (pe_bl))) pss_nil))) pss_nil), fun n D σ H h q => ?_⟩
  obtain ⟨B, t, ms, TU, NO, ⟨v0, v2, v7, v9, v10, v11, v12, v13, v14, v15, v19, v20, v21, v22, rfl⟩, ho⟩ := h
  rcases ho with ho | ⟨p, z, ho, hR, hz⟩
  · have e : v20 = some .non := Option.some.inj ho
    subst e
    refine ⟨_, rfl, rfl, _, rfl, ?_⟩
    exact q _ _ _ ⟨B, t, ms, TU, NO, rfl, _, _, _, _, _, _, _, _, _, _, _, _, _, _, rfl⟩
  · have e : v20 = some (.ref p) := Option.some.inj ho
    subst e
    refine ⟨_, rfl, rfl, _, rfl, ?_⟩
    obtain ⟨τ, tw, eτ⟩ := NO.tb
    refine ⟨_, rfl, τ, P0, tw, eτ, .inl CH, fun f c' P' τ' H1 L => nil_go ?_⟩
    have N1 := NO.ext TU L.ex L.tw (L.le _ _ eτ)
    have CB : ∀ (pins : List (Addr × Obj)) (s1 : Shared), Inv (LX P w K mg base g c0 A outer s H0 E) pins [v0, some (V.ref t.st), v2, some (V.ref t.d), some (V.ref t.l), some (V.ref t.r), some (V.ref t.a), v7, some t.bd, v9, v10, v11, v12, v13, v14, v15, some (V.int t.fr), some (V.ref t.x), some (V.ref t.m), v19, some (V.ref p), v21, v22, none] H1 s1 → Cb P w K mg base (L2.CX P w) 7 f (fun vs H Q _ => ∃ v, vs = [v] ∧ Q (.ref p) H) (LX P w K mg base g c0 A outer s H0 E).stack s1 H1 := by
      intro pins s1 I
      refine cb_lam (X := LX P w K mg base g c0 A outer s H0 E) (N := ["_law_seen", "_law_own"]) (ps := ["_law_seen"]) (fr := ["_law_own"]) (js := [20]) (k := 6) I (nfs_def I fun _ => rfl) L.fn L.co (ndef_free (sc := defScope s_law) (fr := []) (by decide +kernel)) (nscope_by (by decide +kernel)) (by decide) (by rfl) (fun us hl _ _ _ => match us, hl with | [_], _ => rfl) (fun vs H Q E h => by obtain ⟨v, rfl, _⟩ := h; rfl) (fun A1 outer1 s2 H1 vs Q E1 hr1 nf ke1 h => ?_)
      obtain ⟨v, rfl, q⟩ := h
      exact ⟨_, pv 1, _, rfl, q⟩
    have tk := own_tk TU.D hz
    refine ⟨f, _, CB, t.x, t.W, _, rfl, TU.lg.same N1.base, Now.wd TU, .inr ⟨0, rfl, Int.le_refl _, Nat.two_pow_pos _, fun p1 H2 s2 n2 h2 Q1 k1 => ⟨_, rfl, k1 _ _ ?_⟩⟩⟩
    have N2 := N1.same TU s2
    refine ⟨TU.lg.same N2.base, fun _ _ e => e, .inl ⟨p, _, _, _, rfl, hR.same N2.base, fun h hh => ⟨tk_sz tk hh, low_low tk.1⟩, tk, fun b o i j off H3 s3 hb ho2 Bk => ?_⟩⟩
    have N3 := N2.same TU s3
    obtain ⟨to, ex⟩ := own_exact TU.D hz Bk
    obtain ⟨hi, hj, hij⟩ := brk_mem Bk
    have tk1 : 0 < z.2 := tk.1
    refine ⟨b, _, rfl, .of hb, rfl, _, _, rfl, _, _, rfl, _, _, rfl, rfl, ?_⟩
    refine ⟨_, rfl, _, rfl, _, rfl, _, rfl, _, rfl, nil_go ?_⟩
    refine ⟨t.x, o, p, t.W, fun h => off h * z.2, corF t.W z, z.2, i, j, rfl, TU.lg.same N3.base, (Now.wd TU).toOk, ho2.congr fun h _ => one_low tk1, hR.same N3.base, to, tk, hi, hj, hij, fun p4 H4 s4 n4 h4 => ?_⟩
    rw [ex] at h4
    have N4 := N3.same TU s4
    rcases TU.bdv with ⟨_, na⟩ | ⟨c, z2, eb, hc, hz2⟩
    · exact absurd hz.1 na
    · have ez := isBd_uniq hz hz2
      subst ez
      have e4 : PyData.eqv (dFr z) (dFr z) = true := by
        show PyData.eqv (.tuple [.int z.1, .int z.2]) (.tuple [.int z.1, .int z.2]) = true
        simp [PyData.eqv, PyData.eqvAll]
      refine ⟨_, rfl, dFr z, dFr z, dp_fr h4, by rw [eb]; exact dp_fr (FrAt.same' N4.base hc), sh_fr.shaped (by decide), sh_fr.shaped (by decide), _, rfl, ?_⟩
      rw [e4]
      exact q _ _ _ ⟨B, t, ms, TU, N4, rfl, _, _, _, _, _, _, _, _, _, _, _, _, _, _, rfl⟩
end
end K80

set_option maxHeartbeats 8000000
/-! a turn of the law: what work raises goes through -/
namespace K80
open PySem PySem.Spec L2 LamX NdefX
open PyProof.Rows hiding St
section
variable {P : Program} {w : World} {K : PySem.W.Frag} {mg : Str → Option Value} {base : Heap}
theorem LogAt.ext {H H' : Hp} {x : Addr} {W : Wd} (s : ExtN H H') (h : LogAt K H x W) : LogAt K H' x W :=
  have h2 : LogAtN K H x W (fun b => b ∉ ([] : List Addr)) := let ⟨dx, fs, a1, a2, a3, a4, a5, r⟩ := h; ⟨dx, fs, a1, a2, a3, a4, a5, ⟨by simp, by simp⟩, r⟩
  (cut_logN h2).same fun b o e => by
    obtain ⟨e1, h⟩ := cut_cases e
    refine s _ _ e1 fun ps z => ?_
    subst z
    rcases h with ⟨xs, z, _⟩ | z <;> cases z
theorem p_met (T : Txt K mg) {P0 c0 : Addr} (B0 : base.BuiltinsAt mg P0) (CH : PySem.W.CodeHd base c0 P0) {g : Addr} {A : Around} {outer : List Env} {s : Shared} {H0 : Hp} {E : XK} (hr : Room 14 (A.deeper (envOfC "law" (defScope s_law) s.heap.objs.size g (.ref c0)))) :
    ∃ t, PS (LX P w K mg base g c0 A outer s H0 E) (tS 8) t ∧ ∀ (n k : Nat) (D : Ends) (σ : L2.St) (H : Hp), Mid K P0 n k σ H → (∀ σ' H', Mid K P0 n k σ' H' → D.nx σ' H') → t D σ H := by
  have BC3 : CallOkS P w K mg base 8 7 "break_clocks" ["log", "work", "far"] [] (spBC K) := (ok_bc T).1
  have MET : CallOkS P w K mg base 13 12 "_law_met" ["_law_ask"] [] (spMet K) := ok_met T
  refine ⟨_, (ps_if (pt_cmpR (op_neDK (K := K) rfl (deep64 hr)) (K80.pe_callS MET (hr.mono (by decide)) (by rfl) (passes_call L2.takes0 fun _ _ _ _ h => h) (pa_cons (pe_lamW B0 (by rfl) (by rfl) (ndef_free (sc := defScope (topS 77)) (fr := []) (by decide +kernel))) pa_nil)) (pe_tup (pa_cons (pe_str) (pa_cons (pe_non) pa_nil))) (nomark _)) (pss_one (ps_ret (pe_bl))) pss_nil), fun n k D σ H h q => ?_⟩
  obtain ⟨B, t, ms, TU, NO, lm, ⟨v0, v2, v7, v9, v10, v11, v12, v13, v14, v15, v19, v20, v21, v22, rfl⟩⟩ := h
  obtain ⟨τ, tw, eτ⟩ := NO.tb
  refine ⟨τ, P0, tw, eτ, .inl CH, fun f c' P' τ1 H1 L => nil_go ?_⟩
  have N1 := NO.ext TU L.ex L.tw (L.le _ _ eτ)
  have CB : ∀ (pins : List (Addr × Obj)) (s1 : Shared), Inv (LX P w K mg base g c0 A outer s H0 E) pins [v0, some (V.ref t.st), v2, some (V.ref t.d), some (V.ref t.l), some (V.ref t.r), some (V.ref t.a), v7, some t.bd, v9, v10, v11, v12, v13, v14, v15, some (V.int t.fr), some (V.ref t.x), some (V.ref t.m), v19, v20, v21, v22, none] H1 s1 →
      Cb P w K mg base (L2.CX P w) 12 f (fun vs H Q E => vs = [] ∧ LogAt K H t.x t.W ∧ ∃ τ1, TW τ1 H ∧ τ1 P' = some (qIn ("law.<locals>." : Str)) ∧ ∀ d H' τ', ExtN H H' → TLe τ1 τ' → TW τ' H' → E (.type "ZeroDivisionError") d H') (LX P w K mg base g c0 A outer s H0 E).stack s1 H1 := by
    intro pins s1 I
    refine cb_lam (X := LX P w K mg base g c0 A outer s H0 E) (N := ["_law_far", "_law_log"]) (ps := []) (fr := ["_law_far", "_law_log"]) (js := [16, 17]) (k := 11) I (nfs_def I fun _ => rfl) L.fn L.co (ndef_free (sc := defScope s_law) (fr := []) (by decide +kernel)) (nscope_by (by decide +kernel)) (by decide) (by rfl) (fun us hl _ _ _ => match us, hl with | [], _ => rfl) (fun vs H Q E h => by obtain ⟨rfl, _⟩ := h; rfl) (fun A1 outer1 s2 H2 vs Q E1 hr1 nf ke1 h => ?_)
    obtain ⟨rfl, hx, τ1, tw1, e1, q⟩ := h
    refine ⟨_, K80.pe_callS BC3 (hr1.mono (by decide)) (by rfl) (passes_call (takes_of rfl rfl rfl rfl) fun _ _ _ _ h => h) (pa_cons (pv 1) (pa_cons (pe_lamW B0 (by rfl) (by rfl) (ndef_free (fr := []) (by kernel_rfl))) (pa_cons (pv 0) pa_nil))), ?_⟩
    refine ⟨_, rfl, τ1, P', tw1, e1, .inr ⟨_, ke1 _ _ L.co⟩, fun f2 c2 P2 τ2 H3 L2 => ⟨_, rfl, nil_go ?_⟩⟩
    refine ⟨f2, fun vs H Q E => (∃ v, vs = [v]) ∧ ∀ d, E (.type "ZeroDivisionError") d H, fun pins s1 I => ?_, t.x, t.W, _, rfl, hx.ext L2.ex, Now.wd TU, .inr ⟨t.fr, rfl, TU.fr0, TU.frz, fun p4 H4 s4 n4 h4 Q1 k1 => ⟨⟨_, rfl⟩, fun d => q d H4 τ2 (L2.ex.trans (extN_same s4)) L2.le (L2.tw.same s4)⟩⟩⟩
    · refine cb_lam (N := ["_law_seen"]) (ps := ["_law_seen"]) (fr := []) (js := []) (k := 6) I nf L2.fn L2.co (ndef_free (fr := []) (by kernel_rfl)) (nscope_by (by decide +kernel)) (by decide) (by rfl) (fun us hl _ _ _ => match us, hl with | [_], _ => rfl) (fun vs H Q E h => by obtain ⟨⟨v, rfl⟩, _⟩ := h; rfl) (fun A2 outer2 s3 H4 vs Q2 E2 hr2 nf2 ke2 h => ?_)
      obtain ⟨⟨v, rfl⟩, h⟩ := h
      refine ⟨_, pe_op (op_div0 rfl (takes_of rfl rfl rfl rfl)) pe_int pe_int, ?_⟩
      exact ⟨1, rfl, rfl, fun d σ => h d⟩
  refine ⟨f, _, CB, rfl, fun Q1 E1 k1 => ⟨rfl, TU.lg.same N1.base, τ1, L.tw, L.at', fun d H2 τ2 ex2 le2 tw2 => k1 _ _ _ (.inr (.inr ⟨rfl, fun p H3 s3 n3 h3 => ?_⟩))⟩⟩
  have N3 := (N1.ext TU ex2 tw2 (le2 _ _ (L.le _ _ eτ))).same TU s3
  refine ⟨by show 2 ≤ sizeLine; decide, fun p2 n2 => ?_⟩
  have s4 := same_new (o := .tup [.str "raised", .non]) n2
  have e4 : PyData.eqv (.tuple [.str "raised", .none]) (.tuple [.str "raised", .none]) = true := by simp [PyData.eqv, PyData.eqvAll]
  have sh4 : SeqAt.shaped (.tuple [.str "raised", .none]) = true := by simp [SeqAt.shaped, PyData.canLay0, PyData.canLayAll0, PyData.depth, PyData.depthAll]; decide +kernel
  refine ⟨.tuple [.str "raised", .none], .tuple [.str "raised", .none], .tup (.of (s4 _ _ h3)) (.cons (.str _) (.cons .non .nil)), .tup (.of upd_same) (.cons (.str _) (.cons .non .nil)), sh4, sh4, _, rfl, ?_⟩
  rw [e4]
  exact q _ _ ⟨B, t, ms, TU, N3.same TU s4, lm, _, _, _, _, _, _, _, _, _, _, _, _, _, _, rfl⟩
end
end K80

set_option maxHeartbeats 8000000
/-! a turn of the law: odd fars -/
namespace K80
open PySem PySem.Spec L2 LamX NdefX
open PyProof.Rows hiding St
/-- the odd fars -/
def OddF (H : Hp) (v : V) : Prop := v = .non ∨ v = .int (-1) ∨ v = .bl true ∨ v = .str "5" ∨ (∃ a, v = .ref a ∧ H a = some (.tup [.int 1, .int 1])) ∨ ∃ a, v = .ref a ∧ H a = some (.lst [])
section
variable {P : Program} {w : World} {K : PySem.W.Frag} {mg : Str → Option Value} {base : Heap}
theorem OddF.same {H H' : Hp} {v : V} (s : Same H H') (h : OddF H v) : OddF H' v := by
  rcases h with h | h | h | h | ⟨a, e, h⟩ | ⟨a, e, h⟩
  · exact .inl h
  · exact .inr (.inl h)
  · exact .inr (.inr (.inl h))
  · exact .inr (.inr (.inr (.inl h)))
  · exact .inr (.inr (.inr (.inr (.inl ⟨a, e, s _ _ h⟩))))
  · exact .inr (.inr (.inr (.inr (.inr ⟨a, e, s _ _ h⟩))))
theorem OddF.ext {H H' : Hp} {v : V} (s : ExtN H H') (h : OddF H v) : OddF H' v := by
  rcases h with h | h | h | h | ⟨a, e, h⟩ | ⟨a, e, h⟩
  · exact .inl h
  · exact .inr (.inl h)
  · exact .inr (.inr (.inl h))
  · exact .inr (.inr (.inr (.inl h)))
  · exact .inr (.inr (.inr (.inr (.inl ⟨a, e, s _ _ h fun _ z => by cases z⟩))))
  · exact .inr (.inr (.inr (.inr (.inr ⟨a, e, s _ _ h fun _ z => by cases z⟩))))
theorem Now.nin {B H : Hp} {t : TD} {P0 b : Addr} {n : Nat} {ms : List V} (N : Now B t P0 n ms H) (e : H b = none) : b ∉ t.S := by
  obtain ⟨h1, h2⟩ := N.st.ne e
  have h3 : b ≠ t.m := fun z => by rw [z, N.m] at e; cases e
  simp [TD.S, h1, h2, h3]
theorem OddF.tyb {H : Hp} {v : V} (h : OddF H v) : ∃ t, Tyb K H v t ∧ (t ≠ "int" ∨ ∃ i, v = .int i ∧ i < 0) := by
  rcases h with rfl | rfl | rfl | rfl | ⟨a, rfl, h⟩ | ⟨a, rfl, h⟩
  · exact ⟨_, tyb_non, .inl (by decide)⟩
  · exact ⟨_, tyb_int, .inr ⟨_, rfl, by decide⟩⟩
  · exact ⟨_, tyb_bl, .inl (by decide)⟩
  · exact ⟨_, tyb_str, .inl (by decide)⟩
  · exact ⟨_, tyb_tup h, .inl (by decide)⟩
  · exact ⟨_, tyb_lst h, .inl (by decide)⟩
theorem OddF.sm {H : Hp} {v : V} {n : Nat} (h : OddF H v) : Sm (n + 2) H v v := by
  rcases h with rfl | rfl | rfl | rfl | ⟨a, rfl, h⟩ | ⟨a, rfl, h⟩
  · exact sm_leaf (.inl rfl)
  · exact sm_leaf (.inr (.inl ⟨_, rfl⟩))
  · exact sm_leaf (.inr (.inr (.inl ⟨_, rfl⟩)))
  · exact sm_leaf (.inr (.inr (.inr ⟨_, rfl⟩)))
  · exact sm_rows h h (by show 2 ≤ 1000; decide) (.cons (sm_leaf (.inr (.inl ⟨_, rfl⟩))) (.cons (sm_leaf (.inr (.inl ⟨_, rfl⟩))) .nil))
  · exact .inr (.inl ⟨a, a, [], [], rfl, rfl, by show 0 ≤ 1000; decide, .inl ⟨h, h⟩, .nil⟩)
theorem p_odd1 (T : Txt K mg) {P0 c0 : Addr} (B0 : base.BuiltinsAt mg P0) (CH : PySem.W.CodeHd base c0 P0) {g : Addr} {A : Around} {outer : List Env} {s : Shared} {H0 : Hp} {E : XK} (hr : Room 14 (A.deeper (envOfC "law" (defScope s_law) s.heap.objs.size g (.ref c0)))) :
    ∃ t, PS (LX P w K mg base g c0 A outer s H0 E) (tS 9) t ∧ ∀ (n k : Nat) (D : Ends) (σ : L2.St) (H : Hp), Mid K P0 n k σ H → (∀ σ' H', Mid K P0 n k σ' H' → D.nx σ' H') → t D σ H := by
  have BC3 : CallOkS P w K mg base 8 7 "break_clocks" ["log", "work", "far"] [] (spBC K) := (ok_bc T).1
  have MET : CallOkS P w K mg base 13 12 "_law_met" ["_law_ask"] [] (spMet K) := ok_met T
  have C__law_same : CallOk P w K mg base CX0 6 "_law_same" ["_law_found", "_law_due"] [] (spSm (Sm 5)) := ok_same T 5
  refine ⟨_, (ps_for PassesOwn.never rfl (pi_tupK (K := K) rfl (pe_tup (pa_cons (pe_non) (pa_cons (pe_un un_neg (pe_int)) (pa_cons (pe_bl) (pa_cons (pe_str) (pa_cons (pe_tup (pa_cons (pe_int) (pa_cons (pe_int) pa_nil))) (pa_cons (pe_lst pa_nil) pa_nil)))))))) (pg_name (i := 19) sc_law.nd rfl (.inr rfl))
      (pss_one (ps_if (pt_not (pt_val (pe_callT C__law_same (hr.mono (by decide)) (by rfl) pass0 (pa_cons (K80.pe_callS MET (hr.mono (by decide)) (by rfl) (passes_call L2.takes0 fun _ _ _ _ h => h) (pa_cons (pe_lamW B0 (by rfl) (by rfl) (ndef_free (sc := defScope (topS 77)) (fr := []) (by decide +kernel))) pa_nil)) (pa_cons (pe_tup (pa_cons (pe_str) (pa_cons (pv 19) pa_nil))) pa_nil))))) (pss_one (ps_ret (pe_bl))) pss_nil))), fun n k D σ H h q => ?_⟩
  obtain ⟨B, t, ms, TU, NO, lm, ⟨v0, v2, v7, v9, v10, v11, v12, v13, v14, v15, v19, v20, v21, v22, rfl⟩⟩ := h
  refine ⟨_, rfl, ?_⟩
  refine ⟨by show 2 ≤ sizeLine; decide, fun t1 n1 => ⟨by show 0 ≤ sizeLine; decide, fun l1 n2 => ⟨by show 6 ≤ sizeLine; decide, fun p np => ⟨p, rfl, ⟨_, .of upd_same⟩, ?_⟩⟩⟩⟩
  have s1 := same_new (o := .tup [.int 1, .int 1]) n1
  have s2 := same_new (o := .lst []) n2
  have s3 := same_new (o := .tup [.non, .int (-1), .bl true, .str "5", .ref t1, .ref l1]) np
  obtain ⟨TX, NX⟩ := (NO.same TU (s1.trans (s2.trans s3))).re TU
  have hp : (cut t.S (upd (upd (upd H t1 (.tup [.int 1, .int 1])) l1 (.lst [])) p (.tup [.non, .int (-1), .bl true, .str "5", .ref t1, .ref l1]))) p = some (.tup [.non, .int (-1), .bl true, .str "5", .ref t1, .ref l1]) := cut_firm upd_same
  have hodd : ∀ x ∈ [V.non, .int (-1), .bl true, .str "5", .ref t1, .ref l1], OddF (cut t.S (upd (upd (upd H t1 (.tup [.int 1, .int 1])) l1 (.lst [])) p (.tup [.non, .int (-1), .bl true, .str "5", .ref t1, .ref l1]))) x := by
    intro x hx
    simp only [List.mem_cons, List.not_mem_nil, or_false] at hx
    rcases hx with rfl | rfl | rfl | rfl | rfl | rfl
    · exact .inl rfl
    · exact .inr (.inl rfl)
    · exact .inr (.inr (.inl rfl))
    · exact .inr (.inr (.inr (.inl rfl)))
    · exact .inr (.inr (.inr (.inr (.inl ⟨_, rfl, cut_firm ((s2.trans s3) _ _ upd_same)⟩))))
    · exact .inr (.inr (.inr (.inr (.inr ⟨_, rfl, cut_lst (s3 _ _ upd_same) (NO.nin (s1.free n2))⟩))))
  clear TU NO
  generalize upd (upd (upd H t1 (.tup [.int 1, .int 1])) l1 (.lst [])) p (.tup [.non, .int (-1), .bl true, .str "5", .ref t1, .ref l1]) = H1 at *
  clear s1 s2 s3
  generalize cut t.S H1 = BX at *
  refine for_tup (xs := [.non, .int (-1), .bl true, .str "5", .ref t1, .ref l1]) (fun i σ H' => Now BX t P0 n ms H' ∧ SlT t σ) ⟨NX, _, _, _, _, _, _, _, _, _, _, _, _, _, _, rfl⟩ (fun i σ H' _ h => .of (h.1.base _ _ hp)) ?_ (fun σ H' h => q _ _ ⟨BX, t, ms, TX, h.1, lm, h.2⟩)
  clear NX
  clear v0 v2 v7 v9 v10 v11 v12 v13 v14 v15 v19 v20 v21 v22
  rintro i x σ H2 hx ⟨N2, ⟨v0, v2, v7, v9, v10, v11, v12, v13, v14, v15, v19, v20, v21, v22, rfl⟩⟩
  have ox := hodd x (List.mem_of_getElem? hx)
  obtain ⟨τ, tw, eτ⟩ := N2.tb
  refine ⟨τ, P0, tw, eτ, .inl CH, fun f c' P' τ1 H3 L => nil_go ?_⟩
  have N3 := N2.ext TX L.ex L.tw (L.le _ _ eτ)
  have CB : ∀ (pins : List (Addr × Obj)) (s1 : Shared), Inv (LX P w K mg base g c0 A outer s H0 E) pins ([v0, some (V.ref t.st), v2, some (V.ref t.d), some (V.ref t.l), some (V.ref t.r), some (V.ref t.a), v7, some t.bd, v9, v10, v11, v12, v13, v14, v15, some (V.int t.fr), some (V.ref t.x), some (V.ref t.m), v19, v20, v21, v22, none].set 19 (some x)) H3 s1 →
      Cb P w K mg base (L2.CX P w) 12 f (fun vs H Q E => vs = [] ∧ LogAt K H t.x t.W ∧ OddF H x ∧ ∃ τ1, TW τ1 H ∧ τ1 P' = some (qIn ("law.<locals>." : Str)) ∧ ∀ d H' τ', ExtN H H' → TLe τ1 τ' → TW τ' H' → (∃ dd, d = some dd ∧ H' dd = some (.xd [("thing", x)])) → E (.ref (He.ga K "BadFar")) d H') (LX P w K mg base g c0 A outer s H0 E).stack s1 H3 := by
    intro pins s1 I
    refine cb_lam (X := LX P w K mg base g c0 A outer s H0 E) (N := ["_law_log", "_law_odd"]) (ps := []) (fr := ["_law_log", "_law_odd"]) (js := [17, 19]) (k := 11) I (nfs_def I fun _ => rfl) L.fn L.co (ndef_free (sc := defScope s_law) (fr := []) (by decide +kernel)) (nscope_by (by decide +kernel)) (by decide) (by rfl) (fun us hl _ _ _ => match us, hl with | [], _ => rfl) (fun vs H Q E h => by obtain ⟨rfl, _⟩ := h; rfl) (fun A1 outer1 s2 H2 vs Q E1 hr1 nf ke1 h => ?_)
    obtain ⟨rfl, hlg, ho, τ1, tw1, e1, q⟩ := h
    refine ⟨_, K80.pe_callS BC3 (hr1.mono (by decide)) (by rfl) (passes_call (takes_of rfl rfl rfl rfl) fun _ _ _ _ h => h) (pa_cons (pv 0) (pa_cons (pe_lamW B0 (by rfl) (by rfl) (ndef_free (fr := []) (by kernel_rfl))) (pa_cons (pv 1) pa_nil))), ?_⟩
    refine ⟨_, rfl, τ1, P', tw1, e1, .inr ⟨_, ke1 _ _ L.co⟩, fun f2 c2 P2 τ2 H3 L2 => ⟨_, rfl, nil_go ?_⟩⟩
    obtain ⟨ty, h1, h2⟩ := (ho.ext L2.ex).tyb (K := K)
    refine ⟨f2, fun vs H Q E => False, fun pins s1 I => ?_, t.x, t.W, _, rfl, hlg.ext L2.ex, Now.wd TX, .inl ⟨ty, h1, h2, fun d H4 th => q d H4 τ2 (L2.ex.trans (extN_same th.1)) L2.le (L2.tw.same th.1) th.2⟩⟩
    exact cb_lam (N := ["_law_seen"]) (ps := ["_law_seen"]) (fr := []) (js := []) (k := 6) I nf L2.fn L2.co (ndef_free (fr := []) (by kernel_rfl)) (nscope_by (by decide +kernel)) (by decide) (by rfl) (fun us hl _ _ _ => match us, hl with | [_], _ => rfl) (fun vs H Q E h => h.elim) (fun A2 outer2 s3 H4 vs Q2 E2 hr2 nf2 ke2 h => h.elim)
  refine ⟨f, _, CB, rfl, fun Q1 E1 k1 => ⟨rfl, TX.lg.same N3.base, ox.same N3.base, τ1, L.tw, L.at', fun d H4 τ2 ex2 le2 tw2 hd => k1 _ _ _ (.inl ⟨x, ⟨rfl, hd⟩, fun p4 H5 s5 n5 h5 => ?_⟩)⟩⟩
  have N5 := (N3.ext TX ex2 tw2 (le2 _ _ (L.le _ _ eτ))).same TX s5
  refine ⟨_, rfl, by show 2 ≤ sizeLine; decide, fun p6 n6 => nil_go ?_⟩
  have s6 := same_new (o := .tup [.str "far", x]) n6
  have N6 := N5.same TX s6
  refine ⟨_, _, rfl, sm_rows (s6 _ _ h5) upd_same (by show 2 ≤ 1000; decide) (.cons (sm_leaf (.inr (.inr (.inr ⟨_, rfl⟩)))) (.cons (OddF.sm (ox.same N6.base)) .nil)), fun H7 s7 => ⟨_, rfl, ?_⟩⟩
  exact ⟨N6.same TX s7, _, _, _, _, _, _, _, _, _, _, _, _, _, _, rfl⟩
end
end K80

set_option maxHeartbeats 8000000
/-! a turn of the law: odd readings -/
namespace K80
open PySem PySem.Spec L2 LamX NdefX
open PyProof.Rows hiding St
/-- the odd readings -/
def OddR (H : Hp) (hs : List Nat) (v : V) : Prop := v = .non ∨ v = .int 5 ∨ v = .str "ab" ∨ (∃ a, v = .ref a ∧ H a = some (.tup [.int 0, .int 1])) ∨ (∃ a, v = .ref a ∧ H a = some (.lst [])) ∨ (∃ a, v = .ref a ∧ H a = some (.dK [])) ∨ ∃ a, v = .ref a ∧ H a = some (.dK (dh hs fun _ => .int 1))
section
variable {P : Program} {w : World} {K : PySem.W.Frag} {mg : Str → Option Value} {base : Heap}
theorem OddR.same {H H' : Hp} {hs : List Nat} {v : V} (s : Same H H') (h : OddR H hs v) : OddR H' hs v := by
  rcases h with h | h | h | ⟨a, e, h⟩ | ⟨a, e, h⟩ | ⟨a, e, h⟩ | ⟨a, e, h⟩
  · exact .inl h
  · exact .inr (.inl h)
  · exact .inr (.inr (.inl h))
  · exact .inr (.inr (.inr (.inl ⟨a, e, s _ _ h⟩)))
  · exact .inr (.inr (.inr (.inr (.inl ⟨a, e, s _ _ h⟩))))
  · exact .inr (.inr (.inr (.inr (.inr (.inl ⟨a, e, s _ _ h⟩)))))
  · exact .inr (.inr (.inr (.inr (.inr (.inr ⟨a, e, s _ _ h⟩)))))
theorem OddR.ext {H H' : Hp} {hs : List Nat} {v : V} (s : ExtN H H') (h : OddR H hs v) : OddR H' hs v := by
  rcases h with h | h | h | ⟨a, e, h⟩ | ⟨a, e, h⟩ | ⟨a, e, h⟩ | ⟨a, e, h⟩
  · exact .inl h
  · exact .inr (.inl h)
  · exact .inr (.inr (.inl h))
  · exact .inr (.inr (.inr (.inl ⟨a, e, s _ _ h fun _ z => by cases z⟩)))
  · exact .inr (.inr (.inr (.inr (.inl ⟨a, e, s _ _ h fun _ z => by cases z⟩))))
  · exact .inr (.inr (.inr (.inr (.inr (.inl ⟨a, e, s _ _ h fun _ z => by cases z⟩)))))
  · exact .inr (.inr (.inr (.inr (.inr (.inr ⟨a, e, s _ _ h fun _ z => by cases z⟩)))))
theorem OddR.alt {H : Hp} {hs : List Nat} {v : V} (h : OddR H hs v) : (∃ t, Tyb K H v t ∧ t ≠ "dict") ∨ (∃ a, v = .ref a ∧ H a = some (.dK [])) ∨ ∃ a, v = .ref a ∧ H a = some (.dK (dh hs fun _ => .int 1)) := by
  rcases h with rfl | rfl | rfl | ⟨a, rfl, h⟩ | ⟨a, rfl, h⟩ | h | h
  · exact .inl ⟨_, tyb_non, by decide⟩
  · exact .inl ⟨_, tyb_int, by decide⟩
  · exact .inl ⟨_, tyb_str, by decide⟩
  · exact .inl ⟨_, tyb_tup h, by decide⟩
  · exact .inl ⟨_, tyb_lst h, by decide⟩
  · exact .inr (.inl h)
  · exact .inr (.inr h)
theorem sm_items {H : Hp} {l : List Nat} : ∀ {ts us : List Addr}, Paired (fun t h => H t = some (.tup [hv h, .int 1])) ts l → Paired (fun t h => H t = some (.tup [hv h, .int 1])) us l → Paired (Sm 2 H) (ts.map V.ref) (us.map V.ref) := by
  intro ts us h k
  induction h generalizing us with
  | nil => cases k; exact .nil
  | cons h t ih => cases k with
    | cons h' t' => exact .cons (sm_rows h h' (by show 2 ≤ 1000; decide) (.cons (sm_leaf (.inr (.inr (.inr ⟨_, rfl⟩)))) (.cons (sm_leaf (.inr (.inl ⟨_, rfl⟩))) .nil))) (ih t')
theorem sm_dict {H : Hp} {a : Addr} {l : List Nat} (hl : l.length ≤ 1000) (h : H a = some (.dK (dh l fun _ => .int 1))) : Sm 4 H (.ref a) (.ref a) :=
  .inr (.inr ⟨a, l, rfl, rfl, h, fun H' p q ts us _ hp hq h1 h2 => .inr (.inl ⟨p, q, _, _, rfl, rfl, by rw [List.length_map, h1.length]; exact hl, .inl ⟨hp, hq⟩, sm_items h1 h2⟩)⟩)
theorem OddR.sm {H : Hp} {hs : List Nat} {v : V} (hl : hs.length ≤ 1000) (h : OddR H hs v) : Sm 4 H v v := by
  rcases h with rfl | rfl | rfl | ⟨a, rfl, h⟩ | ⟨a, rfl, h⟩ | ⟨a, rfl, h⟩ | ⟨a, rfl, h⟩
  · exact sm_leaf (.inl rfl)
  · exact sm_leaf (.inr (.inl ⟨_, rfl⟩))
  · exact sm_leaf (.inr (.inr (.inr ⟨_, rfl⟩)))
  · exact sm_rows h h (by show 2 ≤ 1000; decide) (.cons (sm_leaf (.inr (.inl ⟨_, rfl⟩))) (.cons (sm_leaf (.inr (.inl ⟨_, rfl⟩))) .nil))
  · exact .inr (.inl ⟨a, a, [], [], rfl, rfl, by show 0 ≤ 1000; decide, .inl ⟨h, h⟩, .nil⟩)
  · exact sm_dict (l := []) (by decide) h
  · exact sm_dict hl h
/-- an item of the dict of ones -/
def IsOne (H : Hp) (v : V) (h : Nat) : Prop := ∃ p, v = .ref p ∧ H p = some (.tup [hv h, .int 1])
theorem isOne_keep (H H' : Hp) (v : V) (u : Nat) (k : KeepT H H') (h : IsOne H v u) : IsOne H' v u := let ⟨b, e, z⟩ := h; ⟨b, e, k b _ z⟩
theorem one_split {H : Hp} {ys : List V} {hs : List Nat} (h : Paired (IsOne H) ys hs) : ∃ ps : List Addr, ys = ps.map V.ref ∧ Paired (fun p kv => SqT K H p [kV kv.1, kv.2]) ps (dh hs fun _ => .int 1) := by
  induction h with
  | nil => exact ⟨[], rfl, .nil⟩
  | cons h t ih =>
    obtain ⟨ps, rfl, hp⟩ := ih
    obtain ⟨p, rfl, h⟩ := h
    exact ⟨p :: ps, rfl, .cons (.of h) hp⟩
theorem p_odd2 (T : Txt K mg) {P0 c0 : Addr} (B0 : base.BuiltinsAt mg P0) (CH : PySem.W.CodeHd base c0 P0) {g : Addr} {A : Around} {outer : List Env} {s : Shared} {H0 : Hp} {E : XK} (hr : Room 14 (A.deeper (envOfC "law" (defScope s_law) s.heap.objs.size g (.ref c0)))) :
    ∃ t, PS (LX P w K mg base g c0 A outer s H0 E) (tS 10) t ∧ ∀ (n k : Nat) (D : Ends) (σ : L2.St) (H : Hp), Mid K P0 (n + 7) k σ H → (∀ σ' H', Mid K P0 n k σ' H' → D.nx σ' H') → t D σ H := by
  have BC2 : CallOkS P w K mg base 8 7 "break_clocks" ["log", "work", "far"] [.int 0] (spBC K) := (ok_bc T).2
  have MET : CallOkS P w K mg base 13 12 "_law_met" ["_law_ask"] [] (spMet K) := ok_met T
  have C__law_same : CallOk P w K mg base CX0 6 "_law_same" ["_law_found", "_law_due"] [] (spSm (Sm 5)) := ok_same T 5
  have C__law_mixed : CallOk P w K mg base CX0 2 "_law_mixed" ["_law_stream", "_law_some"] [] (spMixed K) := ok_mixed T
  refine ⟨_, (ps_for PassesOwn.never rfl (pi_listK (K := K) rfl (pe_slice (sl_listK (K := K) rfl) (pe_callT C__law_mixed (hr.mono (by decide)) (by rfl) pass0 (pa_cons (pv 1) (pa_cons (pe_lst (pa_cons (pe_non) (pa_cons (pe_int) (pa_cons (pe_dnewK) (pa_cons (pe_lst pa_nil) (pa_cons (pe_str) (pa_cons (pe_callTy (T := "dict") (call_dictP rfl) (by rfl) T.f_dict (by decide +kernel) (pa_cons (pe_lc (own := [("_law_hand", 23)]) (by rfl) sc_law.nd (pi_listK (K := K) rfl (pv 4)) (blkOk_by (own := [("_law_hand", 23)]) (N := ["_law_script", "_law_stream", "_law_turn", "_law_drawn", "_law_hands_here", "_law_roads", "_law_letters", "_law_fars", "_law_bound", "_law_k", "_law_work", "_law_taken", "_law_broken", "_law_offsets", "_law_one", "_law_other", "_law_far", "_law_log", "_law_met_here", "_law_odd", "_law_own", "_law_seed", "_law_way", "_law_hand"]) (sc := defScope (topS 77)) (by decide +kernel)) (fun _ _ _ _ _ => (pg_name (i := 23) sc_law.nd rfl (.inl rfl))) (fun _ _ _ _ _ => pts_nil) (fun _ _ _ _ _ => (pe_tup (pa_cons (pv 23) (pa_cons (pe_int) pa_nil))))) pa_nil)) (pa_cons (pe_tup (pa_cons (pe_int) (pa_cons (pe_int) pa_nil))) pa_nil)))))))) pa_nil))) po_none (po_some (pe_int)))) (pg_name (i := 19) sc_law.nd rfl (.inr rfl))
      (pss_one (ps_if (pt_not (pt_val (pe_callT C__law_same (hr.mono (by decide)) (by rfl) pass0 (pa_cons (K80.pe_callS MET (hr.mono (by decide)) (by rfl) (passes_call L2.takes0 fun _ _ _ _ h => h) (pa_cons (pe_lamW B0 (by rfl) (by rfl) (ndef_free (sc := defScope (topS 77)) (fr := []) (by decide +kernel))) pa_nil)) (pa_cons (pe_tup (pa_cons (pe_str) (pa_cons (pv 19) pa_nil))) pa_nil))))) (pss_one (ps_ret (pe_bl))) pss_nil))), fun n k D σ H h q => ?_⟩
  obtain ⟨B, t, ms, TU, NO, lm, ⟨v0, v2, v7, v9, v10, v11, v12, v13, v14, v15, v19, v20, v21, v22, rfl⟩⟩ := h
  have hl := (TU.dr.same NO.base).l
  have D' := TU.D
  refine ⟨_, rfl, fun F nF => ⟨by show 0 ≤ sizeLine; decide, fun l1 n1 => ?_⟩⟩
  have s1 := same_new (o := .dK []) nF
  have s2 := same_new (o := .lst []) n1
  have hl2 := (s1.trans s2) _ _ hl
  have hF2 : (upd (upd H F (.dK [])) l1 (.lst [])) F = some (.dK []) := s2 _ _ upd_same
  have hl12 : (upd (upd H F (.dK [])) l1 (.lst [])) l1 = some (.lst []) := upd_same
  have N2 := NO.same TU (s1.trans s2)
  have x1 : l1 ∉ t.S := NO.nin (s1.free n1)
  generalize upd (upd H F (.dK [])) l1 (.lst []) = H2 at hl2 N2 hF2 hl12 ⊢
  clear s1 s2 NO hl
  refine ⟨_, rfl, t.l, rfl, ⟨_, .of hl2⟩, fun DD nD => ?_⟩
  refine lcw (us := t.hs) (fun _ v u => v = hv u) IsOne (fun _ => true) id (wk_hands (.of hl2)) isOne_keep (Nat.le_trans D'.h5 (by decide)) ?_ nD ?_
  · rintro i _ u H3 QF QT hu rfl s3 _ qt
    refine ⟨rfl, _, rfl, by show 2 ≤ sizeLine; decide, fun p1 n1 => ?_⟩
    exact qt rfl _ _ (same_new n1) ⟨p1, rfl, upd_same⟩
  intro zs H3 s3 hD hP
  rw [filter_all, List.map_id] at hP
  obtain ⟨ps, rfl, hps⟩ := one_split (K := K) hP
  refine nil_go ⟨DD, ps, dh t.hs fun _ => .int 1, rfl, .of hD, hps, fun G nG => ?_⟩
  rw [show mergeK [] (dh t.hs fun _ => .int 1) = dh t.hs (fun _ => .int 1) from merge_dh _ t.hs [] D'.nd]
  refine ⟨by show 2 ≤ sizeLine; decide, fun t1 n2 => ⟨by show 7 ≤ sizeLine; decide, fun L nL => nil_go ?_⟩⟩
  have s4 := same_new (o := .dK (dh t.hs fun _ => .int 1)) nG
  have s5 := same_new (o := .tup [.int 0, .int 1]) n2
  have s6 := same_new (o := .lst [V.non, .int 5, .ref F, .ref l1, .str "ab", .ref G, .ref t1]) nL
  have hG : (upd (upd (upd H3 G (.dK (dh t.hs fun _ => .int 1))) t1 (.tup [.int 0, .int 1])) L (.lst [V.non, .int 5, .ref F, .ref l1, .str "ab", .ref G, .ref t1])) G = some (.dK (dh t.hs fun _ => .int 1)) := (s5.trans s6) _ _ upd_same
  have ht1 : (upd (upd (upd H3 G (.dK (dh t.hs fun _ => .int 1))) t1 (.tup [.int 0, .int 1])) L (.lst [V.non, .int 5, .ref F, .ref l1, .str "ab", .ref G, .ref t1])) t1 = some (.tup [.int 0, .int 1]) := s6 _ _ upd_same
  have hL : (upd (upd (upd H3 G (.dK (dh t.hs fun _ => .int 1))) t1 (.tup [.int 0, .int 1])) L (.lst [V.non, .int 5, .ref F, .ref l1, .str "ab", .ref G, .ref t1])) L = some (.lst [V.non, .int 5, .ref F, .ref l1, .str "ab", .ref G, .ref t1]) := upd_same
  have s26 := s3.trans (s4.trans (s5.trans s6))
  have N6 := N2.same TU s26
  have hF6 := s26 _ _ hF2
  have hl16 := s26 _ _ hl12
  generalize upd (upd (upd H3 G (.dK (dh t.hs fun _ => .int 1))) t1 (.tup [.int 0, .int 1])) L (.lst [V.non, .int 5, .ref F, .ref l1, .str "ab", .ref G, .ref t1]) = H6 at hG ht1 hL N6 hF6 hl16 ⊢
  clear s3 s4 s5 s6 s26 hF2 hl12 N2 hps hD hP
  obtain ⟨T6, M6⟩ := N6.re TU
  have hodd : ∀ x ∈ [V.non, .int 5, .ref F, .ref l1, .str "ab", .ref G, .ref t1], OddR (cut t.S H6) t.hs x := by
    intro x hx
    simp only [List.mem_cons, List.not_mem_nil, or_false] at hx
    rcases hx with rfl | rfl | rfl | rfl | rfl | rfl | rfl
    · exact .inl rfl
    · exact .inr (.inl rfl)
    · exact .inr (.inr (.inr (.inr (.inr (.inl ⟨_, rfl, cut_firm hF6⟩)))))
    · exact .inr (.inr (.inr (.inr (.inl ⟨_, rfl, cut_lst hl16 x1⟩))))
    · exact .inr (.inr (.inl rfl))
    · exact .inr (.inr (.inr (.inr (.inr (.inr ⟨_, rfl, cut_firm hG⟩)))))
    · exact .inr (.inr (.inr (.inl ⟨_, rfl, cut_firm ht1⟩)))
  refine ⟨t.st, t.cl, L, [V.non, .int 5, .ref F, .ref l1, .str "ab", .ref G, .ref t1], n, rfl, .inl (.of hL), by show 7 ≤ 1000; decide, N6.st, fun r H7 ys mv nr hr7 pe st7 => ?_⟩
  have N7 := M6.mv T6 mv st7
  refine ⟨3, rfl, r, ys, rfl, .of hr7, fun p np => ⟨p, rfl, ⟨_, .of upd_same⟩, ?_⟩⟩
  have ec : cutV ys none (some (3 : Int)) = ys.take 3 := cut_take ys 3 (by rw [pe.length_eq]; show 3 ≤ 7; decide)
  have sp := same_new (o := .lst (cutV ys none (some (3 : Int)))) np
  obtain ⟨TX, NX⟩ := (N7.same T6 sp).re T6
  have hp : (cut t.S (upd H7 p (.lst (cutV ys none (some (3 : Int)))))) p = some (.lst (ys.take 3)) := cut_lst (by rw [← ec]; exact upd_same) (N7.nin np)
  have hodd2 : ∀ x ∈ ys.take 3, OddR (cut t.S (upd H7 p (.lst (cutV ys none (some (3 : Int)))))) t.hs x := fun x hx => (hodd x (pe.mem_iff.mp (List.mem_of_mem_take hx))).same (T6.bs.up (N7.same T6 sp).base)
  generalize upd H7 p (.lst (cutV ys none (some (3 : Int)))) = H8 at *
  clear sp N7 hodd TU
  generalize cut t.S H8 = BX at *
  refine for_list (xs := ys.take 3) (fun i σ H' => Now BX t P0 n ms H' ∧ SlT t σ) ⟨NX, _, _, _, _, _, _, _, _, _, _, _, _, _, _, rfl⟩ (fun i σ H' _ h => .of (h.1.base _ _ hp)) ?_ (fun σ H' h => q _ _ ⟨BX, t, ms, TX, h.1, lm, h.2⟩)
  clear NX
  clear v0 v2 v7 v9 v10 v11 v12 v13 v14 v15 v19 v20 v21 v22
  rintro i x σ H2 hx ⟨N2, ⟨v0, v2, v7, v9, v10, v11, v12, v13, v14, v15, v19, v20, v21, v22, rfl⟩⟩
  have ox := hodd2 x (List.mem_of_getElem? hx)
  obtain ⟨τ, tw, eτ⟩ := N2.tb
  refine ⟨τ, P0, tw, eτ, .inl CH, fun f c' P' τ1 H3 L => nil_go ?_⟩
  have N3 := N2.ext TX L.ex L.tw (L.le _ _ eτ)
  have CB : ∀ (pins : List (Addr × Obj)) (s1 : Shared), Inv (LX P w K mg base g c0 A outer s H0 E) pins ([v0, some (V.ref t.st), v2, some (V.ref t.d), some (V.ref t.l), some (V.ref t.r), some (V.ref t.a), v7, some t.bd, v9, v10, v11, v12, v13, v14, v15, some (V.int t.fr), some (V.ref t.x), some (V.ref t.m), v19, v20, v21, v22, none].set 19 (some x)) H3 s1 →
      Cb P w K mg base (L2.CX P w) 12 f (fun vs H Q E => vs = [] ∧ LogAt K H t.x t.W ∧ OddR H t.hs x ∧ ∃ τ1, TW τ1 H ∧ τ1 P' = some (qIn ("law.<locals>." : Str)) ∧ ∀ d H' τ', ExtN H H' → TLe τ1 τ' → TW τ' H' → (∃ dd, d = some dd ∧ H' dd = some (.xd [("thing", x)])) → E (.ref (He.ga K "BadReading")) d H') (LX P w K mg base g c0 A outer s H0 E).stack s1 H3 := by
    intro pins s1 I
    refine cb_lam (X := LX P w K mg base g c0 A outer s H0 E) (N := ["_law_log", "_law_odd"]) (ps := []) (fr := ["_law_log", "_law_odd"]) (js := [17, 19]) (k := 11) I (nfs_def I fun _ => rfl) L.fn L.co (ndef_free (sc := defScope s_law) (fr := []) (by decide +kernel)) (nscope_by (by decide +kernel)) (by decide) (by rfl) (fun us hl _ _ _ => match us, hl with | [], _ => rfl) (fun vs H Q E h => by obtain ⟨rfl, _⟩ := h; rfl) (fun A1 outer1 s2 H2 vs Q E1 hr1 nf ke1 h => ?_)
    obtain ⟨rfl, hlg, ho, τ1, tw1, e1, q⟩ := h
    refine ⟨_, K80.pe_callS BC2 (hr1.mono (by decide)) (by rfl) (passes_call (takes_of rfl rfl rfl rfl) fun _ _ _ _ h => h) (pa_cons (pv 0) (pa_cons (pe_lamW B0 (by rfl) (by rfl) (ndef_free (fr := []) (by kernel_rfl))) pa_nil)), ?_⟩
    refine ⟨_, rfl, τ1, P', tw1, e1, .inr ⟨_, ke1 _ _ L.co⟩, fun f2 c2 P2 τ2 H3 L2 => nil_go ?_⟩
    have ho3 := ho.ext L2.ex
    refine ⟨f2, fun vs H Q E => (∃ v, vs = [v]) ∧ Q x H, fun pins s1 I => ?_, t.x, t.W, _, rfl, hlg.ext L2.ex, Now.wd TX, .inr ⟨0, rfl, Int.le_refl _, Nat.two_pow_pos _, fun p4 H4 s4 n4 h4 Q1 k1 => ⟨⟨_, rfl⟩, k1 _ _ ⟨(hlg.ext L2.ex).same s4, fun _ _ e => e, .inr ⟨fun d H5 th => q d H5 τ2 (L2.ex.trans (extN_same (s4.trans th.1))) L2.le (L2.tw.same (s4.trans th.1)) th.2, (ho3.same s4).alt⟩⟩⟩⟩⟩
    refine cb_lam (N := ["_law_seen", "_law_odd"]) (ps := ["_law_seen"]) (fr := ["_law_odd"]) (js := [1]) (k := 6) I nf L2.fn L2.co (ndef_free (fr := []) (by kernel_rfl)) (nscope_by (by decide +kernel)) (by decide) (by rfl) (fun us hl _ _ _ => match us, hl with | [_], _ => rfl) (fun vs H Q E h => by obtain ⟨⟨v, rfl⟩, _⟩ := h; rfl) (fun A2 outer2 s3 H4 vs Q2 E2 hr2 nf2 ke2 h => ?_)
    obtain ⟨⟨v, rfl⟩, h⟩ := h
    exact ⟨_, pv 1, _, rfl, h⟩
  refine ⟨f, _, CB, rfl, fun Q1 E1 k1 => ⟨rfl, TX.lg.same N3.base, ox.same N3.base, τ1, L.tw, L.at', fun d H4 τ2 ex2 le2 tw2 hd => k1 _ _ _ (.inr (.inl ⟨x, ⟨rfl, hd⟩, fun p4 H5 s5 n5 h5 => ?_⟩))⟩⟩
  have N5 := (N3.ext TX ex2 tw2 (le2 _ _ (L.le _ _ eτ))).same TX s5
  refine ⟨_, rfl, by show 2 ≤ sizeLine; decide, fun p6 n6 => nil_go ?_⟩
  have s6 := same_new (o := .tup [.str "reading", x]) n6
  have N6 := N5.same TX s6
  refine ⟨_, _, rfl, sm_rows (s6 _ _ h5) upd_same (by show 2 ≤ 1000; decide) (.cons (sm_leaf (.inr (.inr (.inr ⟨_, rfl⟩)))) (.cons (OddR.sm (Nat.le_trans D'.h5 (by decide)) (ox.same N6.base)) .nil)), fun H7 s7 => ⟨_, rfl, ?_⟩⟩
  exact ⟨N6.same TX s7, _, _, _, _, _, _, _, _, _, _, _, _, _, _, rfl⟩
end
end K80

set_option maxHeartbeats 8000000
/-! the law's turns -/
namespace K80
open PySem PySem.Spec L2 LamX NdefX
open PyProof.Rows hiding St
/-- at a turn's head -/
def Head (P0 : Addr) (n : Nat) (σ : L2.St) (H : Hp) : Prop := ∃ st cl, StAt H st cl n ∧ (∃ τ, TW τ H ∧ τ P0 = some ("law.<locals>." : Str)) ∧
  ∃ v0 v2 v3 v4 v5 v6 v7 v8 v9 v10 v11 v12 v13 v14 v15 v16 v17 v18 v19 v20 v21 v22, σ = [v0, some (.ref st), v2, v3, v4, v5, v6, v7, v8, v9, v10, v11, v12, v13, v14, v15, v16, v17, v18, v19, v20, v21, v22, none]
section
variable {P : Program} {w : World} {K : PySem.W.Frag} {mg : Str → Option Value} {base : Heap}
theorem Mid.head {P0 : Addr} {n k : Nat} {σ : L2.St} {H : Hp} (h : Mid K P0 n k σ H) : Head P0 n σ H := by
  obtain ⟨B, t, ms, TU, NO, lm, ⟨v0, v2, v7, v9, v10, v11, v12, v13, v14, v15, v19, v20, v21, v22, rfl⟩⟩ := h
  exact ⟨t.st, t.cl, NO.st, NO.tb, _, _, _, _, _, _, _, _, _, _, _, _, _, _, _, _, _, _, _, _, _, _, rfl⟩
theorem Mid.mono {P0 : Addr} {n m k : Nat} {σ : L2.St} {H : Hp} (h : Mid K P0 n k σ H) (hm : m ≤ n) : Mid K P0 m k σ H :=
  let ⟨B, t, ms, TU, NO, r⟩ := h; ⟨B, t, ms, TU, ⟨NO.base, NO.st.mono hm, NO.ne, NO.m, NO.mt, NO.tb⟩, r⟩
theorem logN_ne {st cl m x : Addr} {W : Wd} {H : Hp} (nm : H m = none) (h : LogAtN K H x W (fun b => b ≠ st ∧ b ≠ cl)) : LogAtN K H x W (fun b => b ∉ [st, cl, m]) := by
  obtain ⟨dx, fs, a1, a2, a3, a4, a5, ⟨n1, n3⟩, e0, e1, e2, h1, h2, ⟨xs, h3, p3⟩, r⟩ := h
  have z1 : a1 ≠ m := fun z => by rw [z, nm] at h1; cases h1
  have z3 : a3 ≠ m := fun z => by rw [z, nm] at h3; cases h3
  exact ⟨dx, fs, a1, a2, a3, a4, a5, ⟨by simp [n1, z1], by simp [n3, z3]⟩, e0, e1, e2, h1, h2, ⟨xs, h3, p3⟩, r⟩
theorem bound_call {H : Hp} {l F : Addr} {hs : List Nat} {ks ks' : List (Nat × Nat)} {rd : Nat × Nat → Int × Option Int} {ls : List Lt} {off : Nat → Int} (D : Drawn hs ks rd ls off) (hl : H l = some (.lst (hs.map hv))) (tb : TbAt hs H F (farL hs (direct rd ls))) {Q : VK} {E : XK}
    (q : ∀ bd H', Same H H' → ((bd = .non ∧ ¬ AllSome ⟨hs, ks', rd, ls⟩) ∨ ∃ c z, bd = .ref c ∧ FrAt H' c z ∧ IsBd ⟨hs, ks', rd, ls⟩ z) → Q bd H') : spLBd [.ref l, .ref F] H Q E :=
  ⟨l, F, hs, _, rfl, hl, D.h6, D.h2, D.h5, D.nd, getAt_tb tb, ringsOk_farL D, fun H' s h => q _ _ s (.inl ⟨rfl, not_all D h⟩), fun p H' r v s _ ha hb hv hf => q _ _ s (.inr ⟨p, _, rfl, hf, law_bd D ha hb hv⟩)⟩
theorem p_turn (T : Txt K mg) {P0 c0 : Addr} (B0 : base.BuiltinsAt mg P0) (CH : PySem.W.CodeHd base c0 P0) {g : Addr} {A : Around} {outer : List Env} {s : Shared} {H0 : Hp} {E : XK} (hr : Room 14 (A.deeper (envOfC "law" (defScope s_law) s.heap.objs.size g (.ref c0)))) :
    ∃ t, PS (LX P w K mg base g c0 A outer s H0 E) ((defBody s_law).getD 1 (.Pass ⟨0, 0, 0, 0⟩)) t ∧ ∀ (D : Ends) (σ : L2.St) (H : Hp), Head P0 1500 σ H → (∀ σ' H', Head P0 0 σ' H' → D.nx σ' H') → t D σ H := by
  have C__law_pick : CallOk P w K mg base CX0 2 "_law_pick" ["_law_stream", "_law_some"] [] spPick := ok_pick T
  have C__law_cl_drawn : CallOk P w K mg base CX0 4 "_law_cl_drawn" ["_law_stream", "_law_least"] [] spLDrawn := ok_l_drawn T
  have C__law_cl_log : CallOk P w K mg base CX0 8 "_law_cl_log" ["_law_stream", "_law_drawn"] [] (spLLog K) := ok_l_log T
  have C__law_cl_fars : CallOk P w K mg base CX0 1 "_law_cl_fars" ["_law_hands_here", "_law_direct"] [] spLF := ok_l_fars T
  have C__law_cl_direct : CallOk P w K mg base CX0 1 "_law_cl_direct" ["_law_roads", "_law_letters"] [] spDS := ok_l_direct T
  have C__law_cl_bound : CallOk P w K mg base CX0 2 "_law_cl_bound" ["_law_hands_here", "_law_fars"] [] spLBd := ok_l_bound T
  obtain ⟨t4, h4, q4⟩ := p_k (P := P) (w := w) T B0 CH (outer := outer) (H0 := H0) (E := E) hr
  obtain ⟨t5, h5, q5⟩ := p_same (P := P) (w := w) (P0 := P0) (base := base) T (outer := outer) (H0 := H0) (E := E) hr
  obtain ⟨t6, h6, q6⟩ := p_own (P := P) (w := w) (P0 := P0) (base := base) T (outer := outer) (H0 := H0) (E := E) hr
  obtain ⟨t7, h7, q7⟩ := p_own2 (P := P) (w := w) T B0 CH (outer := outer) (H0 := H0) (E := E) hr
  obtain ⟨t8, h8, q8⟩ := p_met (P := P) (w := w) T B0 CH (outer := outer) (H0 := H0) (E := E) hr
  obtain ⟨t9, h9, q9⟩ := p_odd1 (P := P) (w := w) T B0 CH (outer := outer) (H0 := H0) (E := E) hr
  obtain ⟨t10, h10, q10⟩ := p_odd2 (P := P) (w := w) T B0 CH (outer := outer) (H0 := H0) (E := E) hr
  refine ⟨_, (ps_for PassesOwn.never rfl (pi_range1 (by rfl) T.f_range (pa_cons (pe_int) pa_nil)) (pg_name (i := 2) sc_law.nd rfl (.inl rfl))
      (pss_cons (ps_set (i := 3) sc_law.nd rfl (.inl rfl) (pe_callT C__law_cl_drawn (hr.mono (by decide)) (by rfl) pass0 (pa_cons (pv 1) (pa_cons (pe_int) pa_nil))))
      (pss_cons (ps_asg (pv 3) (pg_tupK (K := K) rfl rfl (pgs_cons (pg_name (i := 4) sc_law.nd rfl (.inl rfl)) (pgs_cons (pg_name (i := 5) sc_law.nd rfl (.inl rfl)) (pgs_cons (pg_name (i := 6) sc_law.nd rfl (.inl rfl)) pgs_nil)))))
      (pss_cons (ps_asg (pe_tup (pa_cons (pe_callT C__law_cl_log (hr.mono (by decide)) (by rfl) pass0 (pa_cons (pv 1) (pa_cons (pv 3) pa_nil))) (pa_cons (pe_callT C__law_cl_fars (hr.mono (by decide)) (by rfl) pass0 (pa_cons (pv 4) (pa_cons (pe_callT C__law_cl_direct (hr.mono (by decide)) (by rfl) pass0 (pa_cons (pv 5) (pa_cons (pv 6) pa_nil))) pa_nil))) (pa_cons (pe_lst pa_nil) pa_nil)))) (pg_tupK (K := K) rfl rfl (pgs_cons (pg_name (i := 17) sc_law.nd rfl (.inr rfl)) (pgs_cons (pg_name (i := 7) sc_law.nd rfl (.inl rfl)) (pgs_cons (pg_name (i := 18) sc_law.nd rfl (.inr rfl)) pgs_nil)))))
      (pss_cons (ps_asg (pe_tup (pa_cons (pe_callT C__law_cl_bound (hr.mono (by decide)) (by rfl) pass0 (pa_cons (pv 4) (pa_cons (pv 7) pa_nil))) (pa_cons (pe_callT C__law_pick (hr.mono (by decide)) (by rfl) pass0 (pa_cons (pv 1) (pa_cons (pe_lst (pa_cons (pe_int) (pa_cons (pe_int) (pa_cons (pe_int) (pa_cons (pe_op op_pow (pe_int) (pe_int)) pa_nil))))) pa_nil))) pa_nil))) (pg_tupK (K := K) rfl rfl (pgs_cons (pg_name (i := 8) sc_law.nd rfl (.inl rfl)) (pgs_cons (pg_name (i := 16) sc_law.nd rfl (.inr rfl)) pgs_nil))))
      (pss_cons h4
      (pss_cons h5
      (pss_cons h6
      (pss_cons h7
      (pss_cons h8
      (pss_cons h9
      (pss_one h10)))))))))))), fun D σ H h q => ?_⟩
  obtain ⟨st, cl, hst, htw, v0, v2, v3, v4, v5, v6, v7, v8, v9, v10, v11, v12, v13, v14, v15, v16, v17, v18, v19, v20, v21, v22, rfl⟩ := h
  refine ⟨_, rfl, by decide, by decide, ?_⟩
  refine for_range (fun i σ H' => Head P0 (1500 - 500 * i) σ H') ⟨st, cl, hst, htw, _, _, _, _, _, _, _, _, _, _, _, _, _, _, _, _, _, _, _, _, _, _, rfl⟩ ?_ (fun σ H' h => q σ H' (by simpa using h))
  clear hst htw
  clear st cl v0 v2 v3 v4 v5 v6 v7 v8 v9 v10 v11 v12 v13 v14 v15 v16 v17 v18 v19 v20 v21 v22
  rintro i σ H1 hi ⟨st, cl, hst, htw, v0, v2, v3, v4, v5, v6, v7, v8, v9, v10, v11, v12, v13, v14, v15, v16, v17, v18, v19, v20, v21, v22, rfl⟩
  obtain ⟨n, en, en2⟩ : ∃ n, 1500 - 500 * i = n + 200 + 300 ∧ 1500 - 500 * (i + 1) = n := ⟨1000 - 500 * i, by omega, by omega⟩
  rw [en] at hst
  rw [en2]
  refine ⟨_, rfl, st, cl, n + 200, rfl, hst, fun d l r a H2 hs ks rd ls off mv2 nd dr2 hlra DR st2 => ?_⟩
  have tw2 : ∃ τ, TW τ H2 ∧ τ P0 = some ("law.<locals>." : Str) := let ⟨τ, tw, e⟩ := htw; ⟨τ, tw.mv hst mv2, e⟩
  have nl := hst.ne hlra.1
  have na := hst.ne hlra.2.2
  clear hst htw mv2 nd hlra
  refine ⟨_, rfl, d, [.ref l, .ref r, .ref a], rfl, .of dr2.d, rfl, _, _, rfl, _, _, rfl, _, _, rfl, rfl, ?_⟩
  refine ⟨_, rfl, _, rfl, nil_go ?_⟩
  refine ⟨st, cl, d, l, r, a, hs, ks, rd, ls, off, n + 100, rfl, dr2, DR, ⟨nl, na⟩, st2, fun x H3 ks' mv3 nx pm so lg3 st3 => ?_⟩
  have tw3 : ∃ τ, TW τ H3 ∧ τ P0 = some ("law.<locals>." : Str) := let ⟨τ, tw, e⟩ := tw2; ⟨τ, tw.mv st2 mv3, e⟩
  have dr3 : DrawnAt H3 d l r a hs ks rd ls := (cut_drawn (S := [st, cl]) dr2 (by simp [nl.1, nl.2]) (by simp [na.1, na.2])).same (bs_cut.mv cut_le st2 mv3 (by simp) (by simp))
  clear tw2 dr2 mv3 st2
  refine ⟨_, rfl, _, rfl, _, rfl, nil_go ?_⟩
  refine ⟨r, a, ks, rd, ls, hs, rfl, dr3.r, dr3.a, fun l hl => (DR.lt l hl).1, fun k hk => ⟨(DR.prs.2.2 k hk).1, (DR.prs.2.2 k hk).2.1⟩, Nat.le_trans DR.h5 (by decide), fun p4 H4 s4 n4 tb4 => nil_go ?_⟩
  refine ⟨l, p4, hs, _, rfl, s4 _ _ dr3.l, DR.h6, DR.h5, DR.nd, tb4, fun F H5 s5 n5 tb5 => ?_⟩
  have dr5 := dr3.same (s4.trans s5)
  have lg5 := lg3.same (s4.trans s5)
  have st5 := st3.same (s4.trans s5)
  have tw5 : ∃ τ, TW τ H5 ∧ τ P0 = some ("law.<locals>." : Str) := let ⟨τ, tw, e⟩ := tw3; ⟨τ, tw.same (s4.trans s5), e⟩
  clear s4 s5 dr3 lg3 st3 tw3 tb4 n4 n5
  refine ⟨by show 0 ≤ sizeLine; decide, fun m nm => ⟨by show 3 ≤ sizeLine; decide, fun p6 n6 => ⟨p6, [.ref x, .ref F, .ref m], rfl, .of upd_same, rfl, _, _, rfl, _, _, rfl, _, _, rfl, rfl, ?_⟩⟩⟩
  have mne := st5.ne nm
  have lm : l ≠ m := fun z => by have := dr5.l; rw [z, nm] at this; cases this
  have am : a ≠ m := fun z => by obtain ⟨xs, h, _⟩ := dr5.a; rw [z, nm] at h; cases h
  have lg5' := logN_ne nm lg5
  have s6 := (same_new (o := .lst []) nm).trans (same_new (o := .tup [.ref x, .ref F, .ref m]) n6)
  have hm6 : (upd (upd H5 m (.lst [])) p6 (.tup [.ref x, .ref F, .ref m])) m = some (.lst []) := (same_new n6) _ _ upd_same
  have dr6 := dr5.same s6
  have lg6 := lg5'.same s6
  have st6 := st5.same s6
  have tb6 := tb5.same s6
  have tw6 : ∃ τ, TW τ _ ∧ τ P0 = some ("law.<locals>." : Str) := let ⟨τ, tw, e⟩ := tw5; ⟨τ, tw.same s6, e⟩
  clear lg5 lg5' dr5 st5 tb5 tw5 nx
  generalize upd (upd H5 m (.lst [])) p6 (.tup [.ref x, .ref F, .ref m]) = H6 at hm6 dr6 lg6 st6 tb6 tw6 ⊢
  clear s6 n6 nm
  refine ⟨_, rfl, _, rfl, nil_go ?_⟩
  refine bound_call (ks' := ks') DR dr6.l tb6 fun bd H7 s7 hbd => ?_
  refine ⟨_, rfl, 10, 6, rfl, rfl, ⟨by decide, by decide, by decide⟩, by show 4 ≤ sizeLine; decide, fun p8 n8 => nil_go ?_⟩
  have s8 := s7.trans (same_new (o := .lst [.int 0, .int 1, .int 7, .int (10 ^ (6 : Int).toNat)]) n8)
  have hbd8 : (bd = .non ∧ ¬ AllSome ⟨hs, ks', rd, ls⟩) ∨ ∃ c z, bd = .ref c ∧ FrAt (upd H7 p8 (.lst [.int 0, .int 1, .int 7, .int (10 ^ (6 : Int).toNat)])) c z ∧ IsBd ⟨hs, ks', rd, ls⟩ z := hbd.imp id fun ⟨c, z, e, h, k⟩ => ⟨c, z, e, FrAt.same' (same_new n8) h, k⟩
  have h8' : (upd H7 p8 (.lst [.int 0, .int 1, .int 7, .int (10 ^ (6 : Int).toNat)])) p8 = some (.lst [.int 0, .int 1, .int 7, .int (10 ^ (6 : Int).toNat)]) := upd_same
  have p8ne := (st6.same s7).ne n8
  have dr8 := dr6.same s8
  have lg8 := lg6.same s8
  have st8 := st6.same s8
  have hm8 := s8 _ _ hm6
  have tw8 : ∃ τ, TW τ _ ∧ τ P0 = some ("law.<locals>." : Str) := let ⟨τ, tw, e⟩ := tw6; ⟨τ, tw.same s8, e⟩
  generalize upd H7 p8 (.lst [.int 0, .int 1, .int 7, .int (10 ^ (6 : Int).toNat)]) = H8 at h8' dr8 lg8 st8 hm8 tw8 hbd8 ⊢
  clear s8 s7 n8 hbd dr6 lg6 st6 hm6 tw6 tb6
  refine ⟨st, cl, p8, _, n + 99, rfl, h8', p8ne, by show 0 < 4; decide, by show 4 ≤ 1000; decide, st8, fun j z H9 hj mv9 st9 => ?_⟩
  obtain ⟨fr, rfl, fr0, frz⟩ : ∃ fr : Int, z = .int fr ∧ 0 ≤ fr ∧ fr.natAbs < 2 ^ 400 := by
    have hz := List.mem_of_getElem? hj
    simp only [List.mem_cons, List.not_mem_nil, or_false] at hz
    have e6 : (10 : Int) ^ (6 : Int).toNat = 1000000 := by decide
    rcases hz with rfl | rfl | rfl | rfl
    · exact ⟨_, rfl, by decide, Nat.two_pow_pos _⟩
    · exact ⟨_, rfl, by decide, Nat.lt_of_lt_of_le (show (1 : Int).natAbs < 2 ^ 40 by decide) (Nat.pow_le_pow_right (by decide) (by decide))⟩
    · exact ⟨_, rfl, by decide, Nat.lt_of_lt_of_le (show (7 : Int).natAbs < 2 ^ 40 by decide) (Nat.pow_le_pow_right (by decide) (by decide))⟩
    · rw [e6]
      exact ⟨_, rfl, by decide, Nat.lt_of_lt_of_le (show (1000000 : Int).natAbs < 2 ^ 40 by decide) (Nat.pow_le_pow_right (by decide) (by decide))⟩
  refine ⟨by show 2 ≤ sizeLine; decide, fun p10 n10 => ⟨p10, [bd, .int fr], rfl, .of upd_same, rfl, _, _, rfl, _, _, rfl, rfl, ?_⟩⟩
  have s10 := same_new (o := .tup [bd, .int fr]) n10
  generalize upd H9 p10 (.tup [bd, .int fr]) = H10 at s10 ⊢
  have TU : Turn K (cut [st, cl, m] H8) ⟨st, cl, d, l, r, a, x, m, hs, ks, ks', rd, ls, off, bd, fr⟩ :=
    ⟨cut_drawn dr8 (by simp [nl.1, nl.2, lm]) (by simp [na.1, na.2, am]), DR, pm, so, cut_logN lg8, bs_cut, hbd8.imp id fun ⟨c, z, e, h, k⟩ => ⟨c, z, e, cut_firm h, k⟩, fr0, frz⟩
  have NO : Now (cut [st, cl, m] H8) ⟨st, cl, d, l, r, a, x, m, hs, ks, ks', rd, ls, off, bd, fr⟩ P0 (n + 99) [] H10 :=
    ⟨(bs_cut.mv cut_le st8 mv9 (by simp) (by simp)).trans s10, st9.same s10, mne, s10 _ _ (mv9 _ _ mne.1 mne.2 hm8), fun v hv => (List.not_mem_nil hv).elim, let ⟨τ, tw, e⟩ := tw8; ⟨τ, (tw.mv st8 mv9).same s10, e⟩⟩
  refine seq_go (q4 (n + 7) _ _ _ (Mid.mono (n := n + 99) ⟨_, _, _, TU, NO, rfl, _, _, _, _, _, _, _, _, _, _, _, _, _, _, rfl⟩ (by omega)) fun σ4 H11 h4 => ?_)
  refine seq_go (q5 _ _ _ _ h4 fun σ5 H12 h5 => ?_)
  refine seq_go (q6 _ _ _ _ h5 fun σ6 H13 h6 => ?_)
  refine seq_go (q7 _ _ _ _ h6 fun σ7 H14 k7 h7 => ?_)
  refine seq_go (q8 _ _ _ _ _ h7 fun σ8 H15 h8 => ?_)
  refine seq_go (q9 _ _ _ _ _ h8 fun σ9 H16 h9 => ?_)
  exact q10 _ _ _ _ _ h9 fun σ10 H17 h10 => h10.head
end
end K80

set_option maxHeartbeats 8000000
/-! the law holds -/
namespace K80
open PySem PySem.Spec L2 LamX NdefX
open PyProof.Rows hiding St
section
variable {P : Program} {w : World} {K : PySem.W.Frag} {mg : Str → Option Value} {base : Heap}
def spLaw (K : PySem.W.Frag) (P0 : Addr) : Sp := fun vs H Q _ => ∃ (a : Addr) (ns : List Int), vs = [.ref a] ∧ SqL K H a (ns.map V.int) ∧ ns.length ≤ 63 ∧ H P0 = some (.tbl #[]) ∧ ∀ H', Q (.bl true) H'
def tau0 (P0 : Addr) : Tmap := fun b => if b = P0 then some ("law.<locals>." : Str) else none
theorem tw0 {H : Hp} {P0 : Addr} (h : H P0 = some (.tbl #[])) : TW (tau0 P0) H := by
  intro b q e
  unfold tau0 at e
  by_cases z : b = P0
  · subst z
    exact ⟨#[], h, True.intro, fun pos cv hc => by
      have z : codeAmong pos [] = some cv := hc
      simp [codeAmong] at z⟩
  · rw [if_neg z] at e
    cases e
theorem law_body (T : Txt K mg) {P0 c0 : Addr} (B0 : base.BuiltinsAt mg P0) (CH : PySem.W.CodeHd base c0 P0) {g : Addr} {A : Around} {outer : List Env} {s : Shared} {H : Hp} {vs : List V} {Q : VK} {E : XK} (hr : Room 14 (A.deeper (envOfC "law" (defScope s_law) s.heap.objs.size g (.ref c0)))) (h : spLaw K P0 vs H Q E) :
    ∃ t, PSs (cxOf (L2.CX P w) P w K mg base ["_law_script", "_law_stream", "_law_turn", "_law_drawn", "_law_hands_here", "_law_roads", "_law_letters", "_law_fars", "_law_bound", "_law_k", "_law_work", "_law_taken", "_law_broken", "_law_offsets", "_law_one", "_law_other", "_law_far", "_law_log", "_law_met_here", "_law_odd", "_law_own", "_law_seed", "_law_way", "_law_hand"] "law" (defScope s_law) g (.ref c0) A outer s H E) (defBody s_law) t ∧ t { nx := fun _ H' => Q .non H', rt := Q } (start ["_law_script", "_law_stream", "_law_turn", "_law_drawn", "_law_hands_here", "_law_roads", "_law_letters", "_law_fars", "_law_bound", "_law_k", "_law_work", "_law_taken", "_law_broken", "_law_offsets", "_law_one", "_law_other", "_law_far", "_law_log", "_law_met_here", "_law_odd", "_law_own", "_law_seed", "_law_way", "_law_hand"] vs) H := by
  have C__law_start : CallOk P w K mg base CX0 1 "_law_start" ["_law_script"] [] (spStart K) := ok_start T
  obtain ⟨t1, h1, q1⟩ := p_turn (P := P) (w := w) T B0 CH (outer := outer) (H0 := H) (E := E) hr
  obtain ⟨a, ns, rfl, hS, hl, hP, q⟩ := h
  refine ⟨_, PSs.nox (pss_cons (ps_set (i := 1) sc_law.nd rfl (.inl rfl) (pe_callT C__law_start (hr.mono (by decide)) (by rfl) pass0 (pa_cons (pv 0) pa_nil)))
      (pss_cons h1
      (pss_one (ps_ret (pe_bl))))), ?_⟩
  refine ⟨_, rfl, nil_go ?_⟩
  refine ⟨a, ns, rfl, hS, hl, fun st cl H1 s1 n1 n2 hst => ?_⟩
  refine seq_go (q1 _ _ _ ⟨st, cl, hst.mono (by decide), ⟨tau0 P0, tw0 (s1 _ _ hP), if_pos rfl⟩, _, _, _, _, _, _, _, _, _, _, _, _, _, _, _, _, _, _, _, _, _, _, rfl⟩ fun σ' H' h => ?_)
  exact q H'
theorem law_ok (T : Txt K mg) : ∃ fd : FuncData, (∀ (s : Shared) (v : Value), BindsTo s fd ⟨[v], []⟩ [("_law_script", v)]) ∧
    ∀ base : Heap, TabB base mg (He.cT K ("law", none)).1 (He.cT K ("law", none)).2 → FnOk P w K mg base (L2.CX P w) 15 (He.fAd K ("law", none)) fd ["_law_script"] (spLaw K (He.cT K ("law", none)).2) := by
  obtain ⟨fd, F⟩ := T.says.def_ 66 rfl
  have b := FunD.bindsA (ps := ["_law_script"]) F fun _ _ _ _ _ _ us hl => match us, hl with | [_], _ => rfl
  refine ⟨fd, fun s v => b s [v] rfl, fun base TB => ?_⟩
  obtain ⟨oc, od, dV, kV, doc, pm, an, cdv, ct, osl, e, lk, hcd, _, _⟩ := F.ex
  obtain ⟨c0, rfl⟩ := He.codeIn_ref hcd
  subst e
  have ec : He.codeOf K ("law", none) = c0 := He.codeOf_eq lk rfl
  have e1 : (He.cT K ("law", none)).1 = c0 := ec
  rw [e1] at TB
  exact fn_of lk hcd sc_law (fun vs H Q E h => by obtain ⟨a, ns, rfl, _⟩ := h; rfl) fun A outer s H vs Q E hr h => law_body T TB.2 TB.1 hr h
end
end K80

set_option maxHeartbeats 0
/-! the end -/
namespace K80
open PySem PySem.Spec PyProof.Rows L2
theorem txt_of {w : World} {K : PySem.W.Frag} {h : Heap} {mg : Str → Option Value} (X : K.In h) (G : h.Ns mainGlobals mg) (c : He.SaysX fa fn [] tf exX w h K) : Txt K mg where
  glo := fun x hx => He.glo_ok X G (c.t.d.facts hx)
  f_isinstance := He.free_ok X G (c.t.d.facts (mem_of 64 rfl))
  f_list := He.free_ok X G (c.t.d.facts (mem_of 65 rfl))
  f_tuple := He.free_ok X G (c.t.d.facts (mem_of 66 rfl))
  f_int := He.free_ok X G (c.t.d.facts (mem_of 67 rfl))
  f_bool := He.free_ok X G (c.t.d.facts (mem_of 68 rfl))
  f_str := He.free_ok X G (c.t.d.facts (mem_of 69 rfl))
  f_dict := He.free_ok X G (c.t.d.facts (mem_of 70 rfl))
  f_len := He.free_ok X G (c.t.d.facts (mem_of 71 rfl))
  f_all := He.free_ok X G (c.t.d.facts (mem_of 72 rfl))
  f_any := He.free_ok X G (c.t.d.facts (mem_of 73 rfl))
  f_enumerate := He.free_ok X G (c.t.d.facts (mem_of 74 rfl))
  f_sorted := He.free_ok X G (c.t.d.facts (mem_of 75 rfl))
  f_zip := He.free_ok X G (c.t.d.facts (mem_of 76 rfl))
  f_range := He.free_ok X G (c.t.d.facts (mem_of 77 rfl))
  f_min := He.free_ok X G (c.t.d.facts (mem_of 78 rfl))
  f_max := He.free_ok X G (c.t.d.facts (mem_of 79 rfl))
  f_sum := He.free_ok X G (c.t.d.facts (mem_of 80 rfl))
  f_abs := He.free_ok X G (c.t.d.facts (mem_of 81 rfl))
  f_ord := He.free_ok X G (c.t.d.facts (mem_of 82 rfl))
  f_ZeroDivisionError := He.free_ok X G (c.t.d.facts (mem_of 83 rfl))
  f_ValueError := He.free_ok X G (c.t.d.facts (mem_of 84 rfl))
  says := c.t.d
  smallx := He.str_ok X G (c.t.d.facts (mem_of 85 rfl))
  figuresx := He.str_ok X G (c.t.d.facts (mem_of 86 rfl))
  more := c.more
  gcd := by
    have h1 := (Bool.and_eq_true_iff.mp c.more).1
    exact PySem.W.mg_of X G (of_decide_eq_true h1)
end K80
open PySem PySem.W PySem.Calls PyProof.Rows
theorem PySem.Challenge.cw_breakplans_k80_whole_breaking_clocks_holds : PySem.Challenge.rw_breakplans_k80_whole_breaking_clocks.Holds := by
  w_on; o_law
  refine HandSHeadRun.head_imp (r := K80.R) (q := K80.qv) (H := K80.hk) (ob := K80.ob) (M := 20000) (loose := K80.names) (d := HandSHeadRun.topDef K80.R.prog 77) (kwd := []) K80.ob_eq K80.run (by kernel_rfl) (by kernel_rfl) (by kernel_rfl) (by rfl) (by first | assumption | decide +kernel) (by decide +kernel) ⟨rfl, rfl, rfl, rfl, rfl, by decide +kernel⟩ ?hw ?hc
  case hw => w_witness2
  case hc =>
    refine LamX.walk_ofTsE (l := PySem.Challenge.rw_breakplans_k80_whole_breaking_clocks) (n := 63) (k := 15) (x := "_law_script") (CX := fun w => L2.CX (PySem.Challenge.rw_breakplans_k80_whole_breaking_clocks).prog w) rfl (by decide) (by kernel_rfl) ⟨rfl, by decide, by decide⟩ ?F (fun _ _ _ _ _ ⟨_, _, _, _, _, _, _, _, _, _, _, _, z⟩ => z)
    intro w mg fa h Y G hmg0
    obtain ⟨K, KX, c⟩ := Y
    have T := K80.txt_of KX G c
    have hmg : mg ("law" : PySem.Str) = some (.ref fa) := by
      have e : (HandSHeadRun.topDef K80.R.prog 77).name = ("law" : PySem.Str) := by kernel_rfl
      rw [← e]
      exact hmg0
    have e := hmg.symm.trans (T.glo "law" (K80.mem_of 60 rfl))
    cases e
    obtain ⟨fd, hb, hF⟩ := K80.law_ok (P := (PySem.Challenge.rw_breakplans_k80_whole_breaking_clocks).prog) (w := w) T
    have one : ∀ p ∈ [He.cT K ("law", none)], p = He.cT K ("law", none) := fun p hp => List.mem_singleton.mp hp
    have hp0 : (("law", none) : He.Defn) ∈ K80.tf := List.mem_cons_self
    refine ⟨K, KX, fd, [He.cT K ("law", none)], K80.spLaw K (He.cT K ("law", none)).2, fun p hp => ?_, fun p hp => ?_, fun p hp => ?_, hb, fun H a ns hl _ hH hS => ⟨a, ns, rfl, hS, hl, hH _ List.mem_cons_self, fun _ => rfl⟩, fun base _ _ TB => hF base (TB _ List.mem_cons_self)⟩
    · rw [one p hp]; exact c.empty _ hp0
    · rw [one p hp]; exact c.out _ hp0
    · rw [one p hp]; exact PySem.W.codeHd_of_K KX (c.hd _ hp0)

