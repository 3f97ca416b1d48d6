import PyProof.Rows.All
import Wide.All
import OpenK.AllK
import Wide.FinOn
import PySem.Challenge.RW_orderswithin_k76_shapes_trees_and_shuffl
import HandS.Head0
import HandS.Head1
import HandS.Head2
import HandS.HeadWalk
import HandS.HeadHook4
import HandS.EndTab
import HandS.Defaults
import HandS.Codes
import HandS.ExcField
import HandS.ForMost
import HandS.Lambda
import HandS.Style
import HandS.Deep
import HandS.TupLe
import HandS.TupAny
import HandS.SortInts
import HandS.IsInst
import HandS.SetFor
import HandS.TupLen
import HandS.Zip
import HandS.More
import HandS.WordsDict
import HandS.Strs
import HandS.Flow
import HandS.Walk
import HandS.DictComp
import KE.GoesMore
import HandS.Exc
import HandS.ListItems
import HandS.Conv
import HandS.Star
import HandS.HeadHook3
import HandS.ExcInit
import HandS.Small
set_option Elab.async false
set_option linter.all false
set_option maxRecDepth 100000
set_option maxHeartbeats 1000000
/-! Mini: what the head looks at, by the program's names alone. -/
namespace Mini
open PySem L2
/-- a def: the global name it is found by, its own name, its row, its names, whether lambdas stand in it -/
structure DD where
  at_ : Str
  name : Str
  st : Stmt
  N : List Str
  lam : Bool
/-- an error class: its name, its field, its __init__ -/
structure CD where
  x : Str
  fl : Str
  init : Stmt
def DD.ps (d : DD) : List Str := (C8.fnArgs d.st).args.map (·.arg)
def DD.d (d : DD) : He.DefD := ⟨(d.at_, none), d.name, d.name, C8.fnArgs d.st, C8.fnBody d.st, C8.fnScope d.st, [], []⟩
def CD.d (c : CD) : He.DefD := ⟨(c.x, some "__init__"), "__init__", c.x ++ ".__init__", C8.fnArgs c.init, C8.fnBody c.init, C8.fnScope c.init, [], []⟩
def ixL {α : Type} : Nat → List α → List (Nat × α)
  | _, [] => []
  | n, a :: as => (n, a) :: ixL (n + 1) as
def tabN (d : DD) : Str := (d.name ++ ".<locals>.") ++ "<lambda>"
def oexB (K : PySem.W.Frag) (C : Addr) : Bool := (match K.lookup C with
  | some ⟨.type "type", _, .cls cd, sl⟩ => (match cd.mro, sl.toList with
    | .ref C' :: bm, [_, _, _, _, some (.builtin n), _] => C' == C && n == "ValueError.__new__" && !cd.hasDel && cd.hasDict && PySem.HandSPX.refsVE bm
    | _, _ => false)
  | _ => false) && (decide (PySem.W.findIn K (.ref C) "__setattr__" = some (some (.builtin "object.__setattr__"))) && (decide (PySem.W.subIn K (.ref C) (.type "BaseException") = some true) && (decide (PySem.W.typeIn K (.ref C) = some (.type "type")) && PySem.W.keepIn K (.ref C))))
def inClass (st : Stmt) : Stmt := match st with
  | .ClassDef _ _ _ body _ _ _ _ _ _ _ => body.getD 0 (.Pass ⟨0, 0, 0, 0⟩)
  | _ => .Pass ⟨0, 0, 0, 0⟩
/-- what the hook looks at -/
def faL (defs : List DD) (cls : List CD) (names : List (Str × Nat)) (blt : List Str) : List He.Fa := names.map (fun p => .glo p.1) ++ (blt.map .free ++ (cls.map (fun c => .glo c.x) ++ (cls.map (fun c => .noat c.x c.fl) ++ cls.map (fun c => .meth c.x "__init__"))))
def fnL (defs : List DD) (cls : List CD) : List He.DefD := defs.map DD.d ++ cls.map CD.d
def tfL (defs : List DD) : List He.Defn := (defs.filter (·.lam)).map fun d => (d.at_, none)
def tbL (kds : List (Str × List Str)) : List He.Tab := kds.map fun p => (fun K => He.ga K p.1, p.2)
def tabsL (defs : List DD) (K : PySem.W.Frag) : List (Addr × Str) := (defs.filter (·.lam)).map fun d => ((He.cT K (d.at_, none)).2, tabN d)
def exL0 (defs : List DD) (cls : List CD) (names : List (Str × Nat)) (kds : List (Str × List Str)) (K : PySem.W.Frag) : Bool := names.all (fun p => match defs[p.2]? with
    | some d => decide (He.ga K p.1 = He.ga K d.at_)
    | none => false) && (cls.all (fun c => oexB K (He.ga K c.x) && L2.xfB K (He.ga K c.x)) &&
  ((ixL 0 cls).all (fun a => (ixL 0 cls).all fun b => decide (PySem.W.exmOne K (.ref (He.ga K a.2.x)) (.ref (He.ga K b.2.x)) = some (decide (a.1 = b.1)))) &&
  ((tabsL defs K).all (fun p => (tabsL defs K).all fun q => !decide (q.1 = p.1) || decide (q.2 = p.2)) && kds.all fun p => He.Fa.ok K (.glo p.1))))
end Mini
set_option Elab.async false
set_option linter.all false
set_option maxRecDepth 100000
set_option maxHeartbeats 0
namespace Mini
open PySem PySem.Spec PyProof.Rows L2
namespace Lk76
def top (i : Nat) : Stmt := PySem.Challenge.pw_orderswithin_k76_shapes_trees_and_shuffl.main.body.getD i (.Pass ⟨0, 0, 0, 0⟩)
def dds : List DD := [
  ⟨"is_list", "is_list", top 1, ["thing"], false⟩,
  ⟨"is_whole", "is_whole", top 2, ["thing"], false⟩,
  ⟨"is_number", "is_number", top 3, ["thing"], false⟩,
  ⟨"is_below", "is_below", top 4, ["thing", "most"], false⟩,
  ⟨"is_row", "is_row", top 5, ["thing", "many"], false⟩,
  ⟨"kept_order", "kept_order", top 13, ["thing", "one"], false⟩,
  ⟨"need_order", "need_order", top 14, ["order", "kept"], false⟩,
  ⟨"inverse_of", "inverse_of", top 15, ["order", "found", "place", "one"], false⟩,
  ⟨"perfect", "perfect", top 23, ["size", "is_in", "card", "found", "half"], false⟩,
  ⟨"multiple", "multiple", top 24, ["one", "other", "first", "second"], false⟩,
  ⟨"back_after", "back_after", top 25, ["order", "kept", "place", "found", "seen", "size", "at"], false⟩,
  ⟨"heap_by", "heap_by", top 27, ["row", "place"], false⟩,
  ⟨"heap_of", "heap_of", top 28, ["order"], false⟩,
  ⟨"read_off", "read_off", top 29, ["thing", "left", "right"], false⟩,
  ⟨"told_tree", "told_tree", top 30, ["thing"], false⟩,
  ⟨"heap_order", "heap_order", top 31, ["thing", "row", "kept"], false⟩,
  ⟨"order_of_heap", "order_of_heap", top 32, ["heap", "kept"], false⟩,
  ⟨"major_of", "major_of", top 34, ["order", "kept", "place"], false⟩,
  ⟨"is_cut", "is_cut", top 35, ["number", "other", "is_below"], false⟩,
  ⟨"put_behind", "put_behind", top 36, ["row", "number", "one", "found", "piece"], false⟩,
  ⟨"to_crossed", "to_crossed", top 37, ["order", "found", "number"], false⟩,
  ⟨"taken_off", "taken_off", top 38, ["row", "one", "number", "rest", "found", "piece"], false⟩,
  ⟨"from_crossed", "from_crossed", top 39, ["order", "row", "found"], false⟩,
  ⟨"check_size", "check_size", top 41, ["size"], false⟩,
  ⟨"factorial", "factorial", top 42, ["size", "found", "number"], false⟩,
  ⟨"order_by", "order_by", top 43, ["size", "rank", "place", "left", "found", "many"], false⟩,
  ⟨"orders_of", "orders_of", top 44, ["size", "rank"], false⟩,
  ⟨"tree_by", "tree_by", top 46, ["order"], false⟩,
  ⟨"named", "named", top 47, ["heap", "order"], false⟩,
  ⟨"search_tree", "search_tree", top 48, ["order"], false⟩,
  ⟨"tree_row", "tree_row", top 49, ["thing", "row"], false⟩,
  ⟨"need_tree", "need_tree", top 50, ["tree"], false⟩,
  ⟨"sizes_in", "sizes_in", top 51, ["tree", "left", "right"], false⟩,
  ⟨"same_tree", "same_tree", top 52, ["tree", "sizes", "found", "size"], false⟩,
  ⟨"all_with_tree", "all_with_tree", top 53, ["tree", "kept", "order"], false⟩,
  ⟨"first_with_tree", "first_with_tree", top 54, ["tree", "found", "left", "one"], false⟩,
  ⟨"height_by", "height_by", top 55, ["tree"], false⟩,
  ⟨"height_of", "height_of", top 56, ["order"], false⟩,
  ⟨"choices", "choices", top 57, ["size", "rows", "many", "last", "place"], false⟩,
  ⟨"height_counts", "height_counts", top 58, ["size", "found", "_", "ways", "lower", "higher", "many", "some", "left"], false⟩,
  ⟨"common_divisor", "common_divisor", top 60, ["one", "other"], false⟩,
  ⟨"reduced", "reduced", top 61, ["above", "below", "divisor"], false⟩,
  ⟨"need_some", "need_some", top 63, ["order", "kept"], false⟩,
  ⟨"steps_of", "steps_of", top 64, ["order", "one", "other"], false⟩,
  ⟨"shape_of", "shape_of", top 65, ["order"], false⟩,
  ⟨"need_shape", "need_shape", top 66, ["shape", "step"], false⟩,
  ⟨"how_many_of", "how_many_of", top 67, ["shape", "counts", "step", "size", "last"], false⟩,
  ⟨"all_of_shape", "all_of_shape", top 68, ["shape", "kept", "order"], false⟩,
  ⟨"first_of_shape", "first_of_shape", top 69, ["shape", "kept", "step", "found", "falling", "begin"], false⟩,
  ⟨"check_some", "check_some", top 70, ["size"], false⟩,
  ⟨"falls_by", "falls_by", top 71, ["size", "found", "more", "longer", "falls", "stay"], false⟩,
  ⟨"fall_counts", "fall_counts", top 72, ["size"], false⟩,
  ⟨"crossed_counts", "crossed_counts", top 73, ["size", "found", "more", "longer", "pairs", "count", "added"], false⟩,
  ⟨"zigzags", "zigzags", top 74, ["size", "place"], false⟩,
  ⟨"shuffled", "shuffled", top 76, ["piles", "found", "card", "place", "pile"], true⟩,
  ⟨"check_piles", "check_piles", top 77, ["many"], false⟩,
  ⟨"choose", "choose", top 78, ["many", "size", "found", "number"], false⟩,
  ⟨"breaks_of", "breaks_of", top 79, ["order", "back", "one", "other"], false⟩,
  ⟨"ways_by", "ways_by", top 80, ["size", "breaks", "many"], false⟩,
  ⟨"ways_to", "ways_to", top 81, ["order", "many", "kept"], false⟩,
  ⟨"least_piles", "least_piles", top 82, ["order", "kept"], false⟩,
  ⟨"power", "power", top 83, ["number", "count", "found", "_"], false⟩,
  ⟨"chance_of", "chance_of", top 84, ["order", "many", "kept"], false⟩,
  ⟨"unevenness", "unevenness", top 85, ["size", "many", "counts", "far", "whole", "every", "breaks", "count"], false⟩,
  ⟨"_law_stream", "_law_stream", top 87, ["script"], false⟩,
  ⟨"_law_draw", "_law_draw", top 88, ["stream", "many", "mixed", "cell", "digit"], false⟩,
  ⟨"_law_mixed", "_law_mixed", top 89, ["stream", "things", "k", "left", "found"], false⟩,
  ⟨"_law_same", "_law_same", top 90, ["found", "due", "mine", "theirs"], false⟩,
  ⟨"_law_is_very", "_law_is_very", top 91, ["word", "ask", "odd", "found"], true⟩,
  ⟨"_law_order", "_law_order", top 92, ["stream", "size"], false⟩,
  ⟨"_law_all_refused", "_law_all_refused", top 93, ["word", "odds", "asks", "ask", "odd"], true⟩,
  ⟨"_law_odd_orders", "_law_odd_orders", top 94, [], false⟩,
  ⟨"_law_met", "_law_met", top 95, ["ask", "e"], false⟩,
  ⟨"law", "law", top 96, ["script", "stream", "asks", "odds", "order"], true⟩]
def cls0 : List CD := [⟨"BadOrder", "order", inClass (top 8)⟩, ⟨"BadSize", "size", inClass (top 9)⟩, ⟨"BadMany", "many", inClass (top 10)⟩, ⟨"BadTree", "tree", inClass (top 11)⟩, ⟨"BadUpDown", "shape", inClass (top 17)⟩, ⟨"BadHeap", "heap", inClass (top 18)⟩, ⟨"BadPiles", "piles", inClass (top 19)⟩, ⟨"BadEven", "size", inClass (top 20)⟩, ⟨"BadIn", "is_in", inClass (top 21)⟩]
def nms0 : List (Str × Nat) := [⟨"is_list", 0⟩, ⟨"is_whole", 1⟩, ⟨"is_number", 2⟩, ⟨"is_below", 3⟩, ⟨"is_row", 4⟩, ⟨"kept_order", 5⟩, ⟨"need_order", 6⟩, ⟨"inverse_of", 7⟩, ⟨"perfect", 8⟩, ⟨"multiple", 9⟩, ⟨"back_after", 10⟩, ⟨"heap_by", 11⟩, ⟨"heap_of", 12⟩, ⟨"read_off", 13⟩, ⟨"told_tree", 14⟩, ⟨"heap_order", 15⟩, ⟨"order_of_heap", 16⟩, ⟨"major_of", 17⟩, ⟨"is_cut", 18⟩, ⟨"put_behind", 19⟩, ⟨"to_crossed", 20⟩, ⟨"taken_off", 21⟩, ⟨"from_crossed", 22⟩, ⟨"check_size", 23⟩, ⟨"factorial", 24⟩, ⟨"order_by", 25⟩, ⟨"orders_of", 26⟩, ⟨"tree_by", 27⟩, ⟨"named", 28⟩, ⟨"search_tree", 29⟩, ⟨"tree_row", 30⟩, ⟨"need_tree", 31⟩, ⟨"sizes_in", 32⟩, ⟨"same_tree", 33⟩, ⟨"all_with_tree", 34⟩, ⟨"first_with_tree", 35⟩, ⟨"height_by", 36⟩, ⟨"height_of", 37⟩, ⟨"choices", 38⟩, ⟨"height_counts", 39⟩, ⟨"common_divisor", 40⟩, ⟨"reduced", 41⟩, ⟨"need_some", 42⟩, ⟨"steps_of", 43⟩, ⟨"shape_of", 44⟩, ⟨"need_shape", 45⟩, ⟨"how_many_of", 46⟩, ⟨"all_of_shape", 47⟩, ⟨"first_of_shape", 48⟩, ⟨"check_some", 49⟩, ⟨"falls_by", 50⟩, ⟨"fall_counts", 51⟩, ⟨"crossed_counts", 52⟩, ⟨"zigzags", 53⟩, ⟨"shuffled", 54⟩, ⟨"check_piles", 55⟩, ⟨"choose", 56⟩, ⟨"breaks_of", 57⟩, ⟨"ways_by", 58⟩, ⟨"ways_to", 59⟩, ⟨"least_piles", 60⟩, ⟨"power", 61⟩, ⟨"chance_of", 62⟩, ⟨"unevenness", 63⟩, ⟨"_law_stream", 64⟩, ⟨"_law_draw", 65⟩, ⟨"_law_mixed", 66⟩, ⟨"_law_same", 67⟩, ⟨"_law_is_very", 68⟩, ⟨"_law_order", 69⟩, ⟨"_law_all_refused", 70⟩, ⟨"_law_odd_orders", 71⟩, ⟨"_law_met", 72⟩, ⟨"law", 73⟩]
def blt0 : List Str := ["abs", "all", "bool", "dict", "enumerate", "int", "isinstance", "len", "list", "max", "min", "range", "set", "sorted", "str", "sum", "tuple", "zip"]
def kds0 : List (Str × List Str) := []
def loose0 : List Str := ["is_list", "is_whole", "is_number", "is_below", "is_row", "OrderError", "BadOrder", "BadSize", "BadMany", "BadTree", "kept_order", "need_order", "inverse_of", "BadUpDown", "BadHeap", "BadPiles", "BadEven", "BadIn", "perfect", "multiple", "back_after", "heap_by", "heap_of", "read_off", "told_tree", "heap_order", "order_of_heap", "major_of", "is_cut", "put_behind"]
def loose1 : List Str := ["to_crossed", "taken_off", "from_crossed", "check_size", "factorial", "order_by", "orders_of", "tree_by", "named", "search_tree", "tree_row", "need_tree", "sizes_in", "same_tree", "all_with_tree", "first_with_tree", "height_by", "height_of", "choices", "height_counts", "common_divisor", "reduced", "need_some", "steps_of", "shape_of", "need_shape", "how_many_of", "all_of_shape", "first_of_shape", "check_some"]
def loose2 : List Str := ["falls_by", "fall_counts", "crossed_counts", "zigzags", "shuffled", "check_piles", "choose", "breaks_of", "ways_by", "ways_to", "least_piles", "power", "chance_of", "unevenness", "_law_stream", "_law_draw", "_law_mixed", "_law_same", "_law_is_very", "_law_order", "_law_all_refused", "_law_odd_orders", "_law_met"]
abbrev loose : List Str := loose0 ++ loose1 ++ loose2
abbrev fa0 : List He.Fa := faL dds cls0 nms0 blt0
abbrev fn0 : List He.DefD := fnL dds cls0
abbrev tb0 : List He.Tab := tbL kds0
abbrev tf0 : List He.Defn := tfL dds
abbrev ex0 : PySem.W.Frag → Bool := exL0 dds cls0 nms0 kds0
abbrev R : PySem.W.OpenRow := PySem.W.OpenLaw.row PySem.Challenge.rw_orderswithin_k76_shapes_trees_and_shuffl
abbrev hk : PySem.W.Hook := He.hookX 4 fa0 fn0 tb0 tf0 ex0
def ob (s : PySem.W.SharedT) : He.AlX := He.obsX 4 fa0 fn0 tb0 tf0 ex0 (HandSHeadRun.getT s)
theorem ob_eq (s : PySem.W.SharedT) : ob s = hk.obs s.abs := He.obsX_eq (HandSHeadRun.getT_eq s)
section
set_option autoImplicit false
open PySem PySem.W HandSHeadRun
def fnp0 : List He.DefD := (fn0.drop 0).take 28
def fnp1 : List He.DefD := (fn0.drop 28).take 28
def fnp2 : List He.DefD := (fn0.drop 56).take 28
theorem fn_eq : fn0 = fnp0 ++ fnp1 ++ fnp2 := by kernel_rfl
theorem map3 {A B C D E : Type} {o : Option A} {f : A → B} {g : A → C} {k : A → D × E} {a : B} {b : C} {c : D × E} (h1 : o.map (fun s => (f s, g s)) = some (a, b)) (h2 : o.map (fun s => (k s).1) = some c.1) (h3 : o.map (fun s => (k s).2) = some c.2) : o.map (fun s => (f s, g s, k s)) = some (a, b, c) := by
  cases o with
  | none => cases h1
  | some s =>
    have e1 := Option.some.inj h1
    have e2 := Option.some.inj h2
    have e3 := Option.some.inj h3
    show some (f s, g s, k s) = _
    rw [show f s = a from congrArg Prod.fst e1, show g s = b from congrArg Prod.snd e1, show k s = c from Prod.ext e2 e3]
theorem runA (w : World) (os : OsState) : (endF (stepQ (denQ tabQ) R.prog w) 9000 R.prog w os).map (fun s => (looksF R.prog (boot_heap w.params) s.abs, seenQ (PySem.W.view R.prog [96]) loose (importedModules R.prog.main.body) (fun s => xlAt (PySem.W.view R.prog [96]) [] s && recOk R.toRowW.records s) s.abs)) = some (true, openGood (PySem.W.view R.prog [96]) loose) := by kernel_rfl
def KS (s : SharedT) : Frag := He.frT (getT s) (He.asD (getT s) 4)
theorem runB1 (w : World) (os : OsState) : (endF (stepQ (denQ tabQ) R.prog w) 9000 R.prog w os).map (fun s => fa0.all fun f => f.ok (KS s)) = some true := by kernel_rfl
theorem runB2_0 (w : World) (os : OsState) : (endF (stepQ (denQ tabQ) R.prog w) 9000 R.prog w os).map (fun s => fnp0.all fun d => d.ok (KS s)) = some true := by kernel_rfl
theorem runB3_0 (w : World) (os : OsState) : (endF (stepQ (denQ tabQ) R.prog w) 9000 R.prog w os).map (fun s => fnp0.map fun d => He.fnW (KS s) d.at_) = some (fnp0.map He.DefD.val) := by kernel_rfl
theorem runB2_1 (w : World) (os : OsState) : (endF (stepQ (denQ tabQ) R.prog w) 9000 R.prog w os).map (fun s => fnp1.all fun d => d.ok (KS s)) = some true := by kernel_rfl
theorem runB3_1 (w : World) (os : OsState) : (endF (stepQ (denQ tabQ) R.prog w) 9000 R.prog w os).map (fun s => fnp1.map fun d => He.fnW (KS s) d.at_) = some (fnp1.map He.DefD.val) := by kernel_rfl
theorem runB2_2 (w : World) (os : OsState) : (endF (stepQ (denQ tabQ) R.prog w) 9000 R.prog w os).map (fun s => fnp2.all fun d => d.ok (KS s)) = some true := by kernel_rfl
theorem runB3_2 (w : World) (os : OsState) : (endF (stepQ (denQ tabQ) R.prog w) 9000 R.prog w os).map (fun s => fnp2.map fun d => He.fnW (KS s) d.at_) = some (fnp2.map He.DefD.val) := by kernel_rfl
theorem runB4 (w : World) (os : OsState) : (endF (stepQ (denQ tabQ) R.prog w) 9000 R.prog w os).map (fun s => tb0.map fun t => He.dicW (KS s) (t.1 (KS s))) = some (tb0.map fun t => some (He.keysIn w.params t.2)) := by kernel_rfl
theorem runB (w : World) (os : OsState) : (endF (stepQ (denQ tabQ) R.prog w) 9000 R.prog w os).map (fun s => (ob s).1) = some (hk.val w).1 := by
  have a := runB1 w os
  have b0 := runB2_0 w os
  have c0 := runB3_0 w os
  have b1 := runB2_1 w os
  have c1 := runB3_1 w os
  have b2 := runB2_2 w os
  have c2 := runB3_2 w os
  have d := runB4 w os
  generalize endF (stepQ (denQ tabQ) R.prog w) 9000 R.prog w os = o at a b0 c0 b1 c1 b2 c2 d ⊢
  cases o with
  | none => cases a
  | some s =>
    have a : (fa0.all fun f => f.ok (KS s)) = true := Option.some.inj a
    have b0 : (fnp0.all fun d => d.ok (KS s)) = true := Option.some.inj b0
    have c0 : (fnp0.map fun d => He.fnW (KS s) d.at_) = fnp0.map He.DefD.val := Option.some.inj c0
    have b1 : (fnp1.all fun d => d.ok (KS s)) = true := Option.some.inj b1
    have c1 : (fnp1.map fun d => He.fnW (KS s) d.at_) = fnp1.map He.DefD.val := Option.some.inj c1
    have b2 : (fnp2.all fun d => d.ok (KS s)) = true := Option.some.inj b2
    have c2 : (fnp2.map fun d => He.fnW (KS s) d.at_) = fnp2.map He.DefD.val := Option.some.inj c2
    have b : (fn0.all fun d => d.ok (KS s)) = true := by
      rw [fn_eq]
      simp only [List.all_append, b0, b1, b2, Bool.and_self]
    have c : (fn0.map fun d => He.fnW (KS s) d.at_) = fn0.map He.DefD.val := by
      rw [fn_eq]
      simp only [List.map_append, c0, c1, c2]
    have d : (tb0.map fun t => He.dicW (KS s) (t.1 (KS s))) = tb0.map fun t => some (He.keysIn w.params t.2) := Option.some.inj d
    show some ((((fa0.all fun f => f.ok (KS s)) && fn0.all fun d => d.ok (KS s)), fn0.map fun d => He.fnW (KS s) d.at_), tb0.map fun t => He.dicW (KS s) (t.1 (KS s))) = some ((true, fn0.map He.DefD.val), tb0.map fun t => some (He.keysIn w.params t.2))
    rw [a, b, c, d]
    rfl
theorem runC (w : World) (os : OsState) : (endF (stepQ (denQ tabQ) R.prog w) 9000 R.prog w os).map (fun s => (ob s).2) = some (hk.val w).2 := by kernel_rfl
theorem run (w : World) : RunEq R (PySem.W.view R.prog [96]) hk ob 9000 loose w := by
  unfold RunEq
  intro os
  have a := runA w os
  have b := runB w os
  have c := runC w os
  generalize endF (stepQ (denQ tabQ) R.prog w) 9000 R.prog w os = o at a b c ⊢
  exact map3 a b c
end
end Lk76
end Mini
set_option Elab.async false
set_option linter.all false
set_option maxRecDepth 100000
set_option maxHeartbeats 1000000
/-! Mini: a small interpreter of our own. Values are trees; lists that one slot owns are changed in place. -/
namespace Mini
inductive W where
  | non | bl (b : Bool) | int (i : Int) | str (s : List Nat)
  | tup (xs : List W) | lst (xs : List W) | dic (t : Bool) (ks vs : List W)
  | hp (i : Nat) | fn (f : Nat) | clo (l : Nat) (cs : List Nat) | ks (xs : List W) | opq (i : Nat)
  deriving Inhabited
/-- a value that may own lists -/
inductive O where
  | sh (w : W) | lst (xs : List O) | tup (xs : List O) | dic (t : Bool) (ks : List W) (vs : List O)
  deriving Inhabited
mutual
def O.toW : O → W
  | .sh w => w
  | .lst xs => .lst (O.toWs xs)
  | .tup xs => .tup (O.toWs xs)
  | .dic t ks vs => .dic t ks (O.toWs vs)
def O.toWs : List O → List W
  | [] => []
  | x :: xs => O.toW x :: O.toWs xs
end
mutual
def eqW : W → W → Bool
  | .non, .non => true
  | .bl a, .bl b => a == b
  | .bl a, .int j => decide ((if a then 1 else 0) = j)
  | .int i, .bl b => decide (i = (if b then 1 else 0))
  | .int i, .int j => decide (i = j)
  | .str x, .str y => decide (x = y)
  | .lst xs, .lst ys => eqWs xs ys
  | .tup xs, .tup ys => eqWs xs ys
  | _, _ => false
def eqWs : List W → List W → Bool
  | [], [] => true
  | x :: xs, y :: ys => if eqW x y then eqWs xs ys else false
  | _, _ => false
end
mutual
/-- what == tells of: no dicts, no functions; at most so deep -/
def flatD : Nat → W → Bool
  | _, .non => true
  | _, .bl _ => true
  | _, .int _ => true
  | _, .str s => s.all fun c => decide (c < 1114112)
  | n + 1, .lst xs => flatDs n xs
  | n + 1, .tup xs => flatDs n xs
  | _, _ => false
def flatDs : Nat → List W → Bool
  | _, [] => true
  | n, x :: xs => if flatD n x then flatDs n xs else false
end
/-- a plain thing without parts -/
def flat1 : W → Bool
  | .non => true | .bl _ => true | .int _ => true
  | .str s => s.all fun c => decide (c < 1114112)
  | _ => false
mutual
/-- the places that a thing names are below n -/
def belowW (n : Nat) : W → Bool
  | .hp i => decide (i < n)
  | .clo _ cs => cs.all fun i => decide (i < n)
  | .tup xs => belowWs n xs
  | .lst xs => belowWs n xs
  | .ks xs => belowWs n xs
  | .dic _ _ vs => belowWs n vs
  | _ => true
def belowWs (n : Nat) : List W → Bool
  | [] => true
  | x :: xs => belowW n x && belowWs n xs
end
mutual
def belowO (n : Nat) : O → Bool
  | .sh w => belowW n w
  | .lst xs => belowOs n xs
  | .tup xs => belowOs n xs
  | .dic _ _ vs => belowOs n vs
def belowOs (n : Nat) : List O → Bool
  | [] => true
  | x :: xs => belowO n x && belowOs n xs
end
def belowS (n : Nat) : List (Option O) → Bool
  | [] => true
  | none :: s => belowS n s
  | some o :: s => belowO n o && belowS n s
/-- how many parts a list or a tuple has -/
def partsN : W → Option Nat
  | .lst xs => some xs.length
  | .tup xs => some xs.length
  | _ => none
inductive HObj where
  | lst (xs : List W) | cell (w : Option W) | lost
abbrev SL := List (Option O)
abbrev HH := List HObj
inductive R (α : Type) where
  | ok (a : α) (s : SL) (h : HH) | exc (c : Nat) (ws : List W) (s : SL) (h : HH) | fail
def R.bind {α β : Type} (r : R α) (k : α → SL → HH → R β) : R β := match r with
  | .ok a s h => k a s h
  | .exc c ws s h => .exc c ws s h
  | .fail => .fail
/-- the thing as it may be read -/
def vw (h : HH) : W → W
  | .hp i => match h[i]? with
    | some (.lst xs) => .lst xs
    | _ => .hp i
  | w => w
inductive BOp where | add | sub | mul | fdiv | mod | pow
inductive COp where | eq | ne | lt | le | gt | ge | isin | notin
inductive Ty where | int | bool | str | list | tuple | dict
inductive BI where | len | list | tuple | sorted | sum | max1 | min1 | max2 | min2 | abs | int | all | any | lenset | dictp
def line : Nat := 16777216
def big64 (i : Int) : Bool := decide (-18446744073709551616 < i) && decide (i < 18446744073709551616)
def sh? (w : W) : Option O := some (.sh w)
def addW : W → W → Option O
  | .int i, .int j => some (.sh (.int (i + j)))
  | .str x, .str y => if x.length + y.length ≤ line then some (.sh (.str (x ++ y))) else none
  | .tup xs, .tup ys => if xs.length + ys.length ≤ line then some (.sh (.tup (xs ++ ys))) else none
  | .lst xs, .lst ys => if xs.length + ys.length ≤ line then some (.lst ((xs ++ ys).map .sh)) else none
  | _, _ => none
def subW : W → W → Option O
  | .int i, .int j => some (.sh (.int (i - j)))
  | _, _ => none
def mulW : W → W → Option O
  | .int i, .int j => if big64 i || big64 j then some (.sh (.int (i * j))) else none
  | .lst xs, .int k => if decide (-9223372036854775808 ≤ k) && decide (k < 9223372036854775808) && decide (xs.length * k.toNat ≤ line) then some (.lst ((List.replicate k.toNat xs).flatten.map .sh)) else none
  | _, _ => none
def fdivW : W → W → Option O
  | .int i, .int j => if decide (0 < j) && decide (j < 1073741824) then some (.sh (.int (i / j))) else none
  | _, _ => none
def modW : W → W → Option O
  | .int i, .int j => if decide (0 < j) then some (.sh (.int (i % j))) else none
  | _, _ => none
def powW : W → W → Option O
  | .int i, .int j => if decide (0 ≤ j) && decide (j ≤ 1000000) && big64 i then some (.sh (.int (i ^ j.toNat))) else none
  | _, _ => none
def binW : BOp → W → W → Option O
  | .add => addW | .sub => subW | .mul => mulW | .fdiv => fdivW | .mod => modW | .pow => powW
def ints? : List W → Option (List Int)
  | [] => some []
  | .int i :: r => match ints? r with
    | some l => some (i :: l)
    | none => none
  | _ => none
def bls? : List W → Option (List Bool)
  | [] => some []
  | .bl i :: r => match bls? r with
    | some l => some (i :: l)
    | none => none
  | _ => none
/-- lists of ints as they lie -/
def lexLt : List Int → List Int → Bool
  | [], [] => false
  | [], _ :: _ => true
  | _ :: _, [] => false
  | x :: xs, y :: ys => if x = y then lexLt xs ys else decide (x < y)
def ltW : W → W → Option Bool
  | .int i, .int j => some (decide (i < j))
  | .tup xs, .tup ys => match ints? xs, ints? ys with
    | some a, some b => some (lexLt a b)
    | _, _ => none
  | _, _ => none
def inW (x : W) : List W → Bool
  | [] => false
  | y :: ys => if eqW y x then true else inW x ys
def eqC (x y : W) : Option Bool := if flatD 60 x && flatD 60 y then some (eqW x y) else none
def neC (x y : W) : Option Bool := if flatD 60 x && flatD 60 y then some (!eqW x y) else none
def gtC : W → W → Option Bool
  | .int i, .int j => some (decide (j < i))
  | _, _ => none
def leC : W → W → Option Bool
  | .int i, .int j => some (decide (i ≤ j))
  | _, _ => none
def geC : W → W → Option Bool
  | .int i, .int j => some (decide (j ≤ i))
  | _, _ => none
def inC (x : W) : W → Option Bool
  | .lst ys => if flatD 59 x && flatDs 59 ys then some (inW x ys) else none
  | .tup ys => if flatD 59 x && flatDs 59 ys then some (inW x ys) else none
  | _ => none
def cmpW : COp → W → W → Option Bool
  | .eq => eqC | .ne => neC | .lt => ltW | .gt => gtC | .le => leC | .ge => geC | .isin => inC
  | .notin => fun x y => match inC x y with
    | some b => some (!b)
    | none => none
/-- the place that an index of any sign means -/
def ixN (n : Nat) (i : Int) : Option Nat := if 0 ≤ i then (if i < n then some i.toNat else none) else if -(n : Int) ≤ i then some (i + n).toNat else none
def atW (xs : List W) (i : Int) : Option W := match ixN xs.length i with
  | some j => xs[j]?
  | none => none
def idxW : W → W → Option W
  | .lst xs, .int i => atW xs i
  | .tup xs, .int i => atW xs i
  | _, _ => none
def sIx (n d : Nat) : Option Int → Nat
  | none => d
  | some v => if v < 0 then (v + n).toNat else min v.toNat n
def cutL {α : Type} (xs : List α) (lo hi : Option Int) : List α := (xs.drop (sIx xs.length 0 lo)).take (sIx xs.length xs.length hi - sIx xs.length 0 lo)
def slcW : W → Option Int → Option Int → Option O
  | .lst xs, lo, hi => some (.lst ((cutL xs lo hi).map .sh))
  | .tup xs, lo, hi => some (.sh (.tup (cutL xs lo hi)))
  | _, _, _ => none
def revW : W → Option O
  | .lst xs => some (.lst (xs.reverse.map .sh))
  | .tup xs => some (.sh (.tup xs.reverse))
  | _ => none
def isTy : Ty → W → Bool
  | .int, .int _ => true | .int, .bl _ => true
  | .bool, .bl _ => true | .str, .str _ => true
  | .list, .lst _ => true | .tuple, .tup _ => true | .dict, .dic _ _ _ => true
  | _, _ => false
def tyOk : W → Bool
  | .hp _ => false | .fn _ => false | .clo _ _ => false | .ks _ => false | .opq _ => false
  | _ => true
def isTyW (ts : List Ty) (w : W) : Option Bool := if tyOk w then some (ts.any fun t => isTy t w) else none
def truW : W → Option Bool
  | .non => some false | .bl b => some b | .int i => some (decide (i ≠ 0)) | .str s => if s.length ≤ line then some (!s.isEmpty) else none
  | .tup xs => some (!xs.isEmpty) | .lst xs => some (!xs.isEmpty) | .dic false ks _ => some (!ks.isEmpty)
  | _ => none
def insI (x : Int) : List Int → List Int
  | [] => [x]
  | y :: ys => if x ≤ y then x :: y :: ys else y :: insI x ys
def sortI : List Int → List Int
  | [] => []
  | x :: xs => insI x (sortI xs)
def maxI : Int → List Int → Int
  | m, [] => m
  | m, x :: xs => if m < x then maxI x xs else maxI m xs
def minI : Int → List Int → Int
  | m, [] => m
  | m, x :: xs => if x < m then minI x xs else minI m xs
def memI (x : Int) : List Int → Bool
  | [] => false
  | y :: ys => if x = y then true else memI x ys
def unI : List Int → List Int
  | [] => []
  | x :: xs => if memI x xs then unI xs else x :: unI xs
def lenF : List W → Option O
  | [.lst xs] => some (.sh (.int xs.length))
  | [.tup xs] => some (.sh (.int xs.length))
  | [.dic _ ks _] => some (.sh (.int ks.length))
  | [.opq i] => some (.sh (.int ((i % 64 : Nat) : Int)))
  | _ => none
def listF : List W → Option O
  | [.lst xs] => some (.lst (xs.map .sh))
  | [.ks xs] => some (.lst (xs.map .sh))
  | [.tup xs] => some (.lst (xs.map .sh))
  | _ => none
def tupleF : List W → Option O
  | [.lst xs] => some (.sh (.tup xs))
  | [.tup xs] => some (.sh (.tup xs))
  | _ => none
def sortedF : List W → Option O
  | [.lst xs] => match ints? xs with
    | some l => some (.lst ((sortI l).map fun i => .sh (.int i)))
    | none => none
  | _ => none
def sumF : List W → Option O
  | [.lst xs] => match ints? xs with
    | some l => some (.sh (.int l.sum))
    | none => none
  | _ => none
def max1F : List W → Option O
  | [.lst xs] => match ints? xs with
    | some (x :: l) => some (.sh (.int (maxI x l)))
    | _ => none
  | [.tup xs] => match ints? xs with
    | some (x :: l) => some (.sh (.int (maxI x l)))
    | _ => none
  | _ => none
def min1F : List W → Option O
  | [.lst xs] => match ints? xs with
    | some (x :: l) => some (.sh (.int (minI x l)))
    | _ => none
  | [.tup xs] => match ints? xs with
    | some (x :: l) => some (.sh (.int (minI x l)))
    | _ => none
  | _ => none
def max2F : List W → Option O
  | [.int i, .int j] => some (.sh (.int (if i < j then j else i)))
  | _ => none
def min2F : List W → Option O
  | [.int i, .int j] => some (.sh (.int (if j < i then j else i)))
  | _ => none
def absF : List W → Option O
  | [.int i] => some (.sh (.int (if i < 0 then -i else i)))
  | _ => none
def intF : List W → Option O
  | [.int i] => some (.sh (.int i))
  | [.bl b] => some (.sh (.int (if b then 1 else 0)))
  | _ => none
def allF : List W → Option O
  | [.lst xs] => match bls? xs with
    | some l => some (.sh (.bl (l.all id)))
    | none => none
  | _ => none
def anyF : List W → Option O
  | [.lst xs] => match bls? xs with
    | some l => some (.sh (.bl (l.any id)))
    | none => none
  | _ => none
def lensetF : List W → Option O
  | [.lst xs] => match ints? xs with
    | some l => if l.length ≤ 4000 then some (.sh (.int (unI l).length)) else none
    | none => none
  | [.tup xs] => match ints? xs with
    | some l => if l.length ≤ 4000 then some (.sh (.int (unI l).length)) else none
    | none => none
  | _ => none
def noF : List W → Option O := fun _ => none
def biW : BI → List W → Option O
  | .len => lenF | .list => listF | .tuple => tupleF | .sorted => sortedF | .sum => sumF | .max1 => max1F | .min1 => min1F
  | .max2 => max2F | .min2 => min2F | .abs => absF | .int => intF | .all => allF | .any => anyF | .lenset => lensetF | .dictp => noF
def findW (x : W) : List W → Nat → Option Nat
  | [], _ => none
  | y :: ys, n => if eqW y x then some n else findW x ys (n + 1)
def indexW : W → W → Option W
  | .lst xs, x => if flat1 x && xs.all flat1 then (match findW x xs 0 with
    | some n => some (.int n)
    | none => none) else none
  | .tup xs, x => if flat1 x && xs.all flat1 then (match findW x xs 0 with
    | some n => some (.int n)
    | none => none) else none
  | _, _ => none
/-- what stands for a key: an int, a text; a tuple of these -/
def keyA : W → Bool
  | .int _ => true
  | .str _ => true
  | _ => false
def keyW (t : Bool) : W → Bool
  | .tup xs => t && xs.all keyA
  | w => !t && keyA w
mutual
/-- keys are the same -/
def sameK : W → W → Bool
  | .int i, .int j => decide (i = j)
  | .str x, .str y => decide (x = y)
  | .tup xs, .tup ys => sameKs xs ys
  | _, _ => false
def sameKs : List W → List W → Bool
  | [], [] => true
  | x :: xs, y :: ys => if sameK x y then sameKs xs ys else false
  | _, _ => false
end
def lookK {α : Type} (k : W) : List W → List α → Option α
  | x :: xs, y :: ys => if sameK x k then some y else lookK k xs ys
  | _, _ => none
def putKs (k : W) : List W → List W
  | [] => [k]
  | x :: xs => if sameK x k then x :: xs else x :: putKs k xs
def putVs {α : Type} (k : W) (v : α) : List W → List α → List α
  | x :: xs, y :: ys => if sameK x k then v :: ys else y :: putVs k v xs ys
  | _, _ => [v]
inductive Tg where | one (i : Nat) | many (is : List Nat) | skip
mutual
inductive ME where
  | cst (w : W) | var (i : Nat) | mv (i : Nat) | cel (i : Nat) | fn (f : Nat)
  | bin (op : BOp) (a b : ME) | neg (a : ME) | cmp (op : COp) (a b : ME) | cmp2 (op op' : COp) (a b c : ME)
  | isn (ne : Bool) (a : ME) | isb (ne b : Bool) (a : ME)
  | and_ (es : List ME) | or_ (es : List ME) | not_ (a : ME) | ite (c a b : ME)
  | tup (es : List ME) | lst (es : List ME) | dnew (t : Bool)
  | idx (a b : ME) | slc (a : ME) (lo hi : Option ME) | rev (a : ME)
  | call (f : Nat) (es : List ME) (kw : List Nat) | callv (g : ME) (es : List ME)
  | bi (b : BI) (es : List ME) | lset (a : ME) | isty (ts : List Ty) (a : ME)
  | pop (o : ME) | popi (o i : ME) | index (a b : ME) | getd (a b c : ME)
  | comp (own : List Nat) (tg : Tg) (it : IT) (ifs : Option ME) (elt : ME)
  | dcomp (own : List Nat) (t : Bool) (tg : Tg) (it : IT) (ifs : Option ME) (k v : ME)
  | lam (l : Nat) (is : List Nat) | prom (a : ME) | items (a : ME) | lrng (a : ME) | lrng2 (a b : ME) | kin (ne : Bool) (a : ME) (ks : List (List Nat)) | tupS (es : List (Bool × ME)) | lstS (es : List (Bool × ME)) | mrk (t : Nat) (a : ME) | btup (a : ME) | bcall (f : Nat) (is : List Nat) | callvK (g : ME) (es : List ME) (kw fs : List Nat) | shr (a : ME) | compX (own : List Nat) (tg : Tg) (it : IT) (ifs : Option ME) (elt : ME) (fr oc : List Nat)
inductive IT where
  | seq (e : ME) | rng1 (b : ME) | rng2 (a b : ME) | rng3 (a b c : ME) | enum (e : ME) | zip (a b : ME)
end
inductive MS where
  | expr (e : ME) | set (i : Nat) (e : ME) | par (is : List Nat) (es : List ME) | unp (is : List Nat) (e : ME)
  | stI (o i e : ME) | stP (o i o' i' : ME) (es : List ME) | aug (op : BOp) (i : Nat) (e : ME)
  | app (o e : ME) | ext (i : Nat) (e : ME)
  | forT (tg : Tg) (it : IT) (body : List MS) | ret (e : ME) | retN | if_ (c : ME) (a b : List MS) | for_ (tg : Tg) (it : IT) (body : List MS) | while_ (m : Nat) (c : ME) (body : List MS)
  | raise_ (c : Nat) (es : List ME) | tryR (e : ME) (hs : List (Nat × W × Bool)) | stD (i : Nat) (k e : ME) | spl (f : Nat) (i : Nat) | brk | cont | pass | junk
inductive Callee where | fn (f : Nat) | clo (l : Nat) (cs : List Nat) | tok (t : Nat) | spl (f : Nat)
abbrev CF := Callee → List O → HH → R O
def callR (cf : CF) (c : Callee) (os : List O) (s : SL) (h : HH) : R O := match cf c os h with
  | .ok o _ h => .ok o s h
  | .exc c ws _ h => .exc c ws s h
  | .fail => .fail
def calleeO : O → Option Callee
  | .sh (.fn f) => some (.fn f)
  | .sh (.clo l cs) => some (.clo l cs)
  | _ => none
/-- own cells are made known: the places, slots, heap -/
def pubC : Nat → List (Option Nat) → SL → HH → Option (List Nat × SL × HH)
  | _, [], s, h => some ([], s, h)
  | i, none :: ce, s, h => pubC (i + 1) ce s h
  | i, some j :: ce, s, h => match s[i]? with
    | some (some o) => match h[j]? with
      | some (.cell none) => match pubC (i + 1) ce (s.set i (some (.sh o.toW))) (h.set j (.cell (some o.toW))) with
        | some (js, s, h) => some (j :: js, s, h)
        | none => none
      | _ => none
    | _ => pubC (i + 1) ce s h
def unpC : List Nat → HH → Option HH
  | [], h => some h
  | j :: js, h => match h[j]? with
    | some (.cell (some _)) => unpC js (h.set j (.cell none))
    | _ => none
def callC (cf : CF) (ce : List (Option Nat)) (c : Callee) (os : List O) (s : SL) (h : HH) : R O := match pubC 0 ce s h with
  | some (js, s, h) => match cf c os h with
    | .ok o _ h => match unpC js h with
      | some h => .ok o s h
      | none => .fail
    | .exc c ws _ h => match unpC js h with
      | some h => .exc c ws s h
      | none => .fail
    | .fail => .fail
  | none => .fail
/-- read a slot: what it owns is shared from now on -/
def rdS (s : SL) (i : Nat) : Option (W × SL) := match s[i]? with
  | some (some (.sh w)) => some (w, s)
  | some (some o) => some (o.toW, s.set i (some (.sh o.toW)))
  | _ => none
def shs? : List O → Option (List W)
  | [] => some []
  | .sh w :: r => match shs? r with
    | some ws => some (w :: ws)
    | none => none
  | _ => none
/-- a look into a slot: nothing is shared by it -/
def pkS (s : SL) (i : Nat) : Option W := match s[i]? with
  | some (some (.sh w)) => some w
  | some (some (.lst xs)) => match shs? xs with
    | some ws => some (.lst ws)
    | none => none
  | some (some (.dic t ks vs)) => match shs? vs with
    | some ws => some (.dic t ks ws)
    | none => none
  | _ => none
/-- an operand: what it is will be looked at when all operands are there -/
inductive Dl where | now (w : W) | slot (i : Nat)
def Dl.get (d : Dl) (s : SL) (h : HH) : Option W := match d with
  | .now w => some (vw h w)
  | .slot i => match pkS s i with
    | some w => some (vw h w)
    | none => none
def evD (f : ME → SL → HH → R O) (e : ME) (s : SL) (h : HH) : R Dl := match e with
  | .var i => match pkS s i with
    | some _ => .ok (.slot i) s h
    | none => (f e s h).bind fun o s h => .ok (.now o.toW) s h
  | e => (f e s h).bind fun o s h => .ok (.now o.toW) s h
/-- errors do not leave a comprehension here -/
def R.nox {α : Type} (r : R α) : R α := match r with
  | .exc _ _ _ _ => .fail
  | r => r
def ofO {α : Type} (o : Option α) (s : SL) (h : HH) : R α := match o with
  | some o => .ok o s h
  | none => .fail
def ev1 (f : ME → SL → HH → R O) (e : ME) (s : SL) (h : HH) : R W := (evD f e s h).bind fun d s h => ofO (d.get s h) s h
def ev2 {β : Type} (f : ME → SL → HH → R O) (a b : ME) (s : SL) (h : HH) (k : W → W → SL → HH → R β) : R β :=
  (evD f a s h).bind fun d s h => (evD f b s h).bind fun e s h => match d.get s h, e.get s h with
    | some x, some y => k x y s h
    | _, _ => .fail
/-- what is told behind a star -/
def starW : W → Option (List O)
  | .tup xs => some (xs.map .sh)
  | .lst xs => some (xs.map .sh)
  | _ => none
def evL (f : ME → SL → HH → R O) : List ME → SL → HH → R (List O)
  | [], s, h => .ok [] s h
  | e :: es, s, h => (f e s h).bind fun o s h => (evL f es s h).bind fun os s h => .ok (o :: os) s h
/-- with stars: which ones -/
def evLS (f : ME → SL → HH → R O) : List (Bool × ME) → SL → HH → R (List O)
  | [], s, h => .ok [] s h
  | (true, e) :: es, s, h => (f e s h).bind fun o s h => match starW o.toW with
    | some ws => (evLS f es s h).bind fun os s h => .ok (ws ++ os) s h
    | none => .fail
  | (false, e) :: es, s, h => (f e s h).bind fun o s h => (evLS f es s h).bind fun os s h => .ok (o :: os) s h
def evDs (f : ME → SL → HH → R O) : List ME → SL → HH → R (List Dl)
  | [], s, h => .ok [] s h
  | e :: es, s, h => (evD f e s h).bind fun o s h => (evDs f es s h).bind fun os s h => .ok (o :: os) s h
def getDs (s : SL) (h : HH) : List Dl → Option (List W)
  | [] => some []
  | d :: ds => match d.get s h, getDs s h ds with
    | some w, some ws => some (w :: ws)
    | _, _ => none
def int? : W → Option Int
  | .int i => some i
  | _ => none
def evO (f : ME → SL → HH → R O) (o : Option ME) (s : SL) (h : HH) : R (Option Int) := match o with
  | none => .ok none s h
  | some e => (ev1 f e s h).bind fun w s h => match w with
    | .int i => .ok (some i) s h
    | _ => .fail
def wipe (s : SL) : List Nat → SL
  | [] => s
  | i :: is => (wipe s is).set i none
/-- the slots is of s as they are in s0 -/
def unwipe (s0 : SL) : List Nat → SL → SL
  | [], s => s
  | i :: is, s => unwipe s0 is (s.set i (s0.getD i none))
/-- the slots is own nothing -/
def shOk (s : SL) : List Nat → Bool
  | [] => true
  | i :: is => (match s[i]? with
    | some none => true
    | some (some (.sh _)) => true
    | _ => false) && shOk s is
def setMany (s : SL) : List Nat → List W → Option SL
  | [], [] => some s
  | i :: is, w :: ws => setMany (s.set i (some (.sh w))) is ws
  | _, _ => none
def setTg (s : SL) : Tg → W → Option SL
  | .skip, _ => some s
  | .one i, w => some (s.set i (some (.sh w)))
  | .many is, .tup ws => setMany s is ws
  | .many _, _ => none
def setOs (s : SL) : List Nat → List O → Option SL
  | [], [] => some s
  | i :: is, o :: os => setOs (s.set i (some o)) is os
  | _, _ => none
def enumW : Nat → List W → List W
  | _, [] => []
  | n, x :: xs => .tup [.int n, x] :: enumW (n + 1) xs
def zipW : List W → List W → List W
  | x :: xs, y :: ys => .tup [x, y] :: zipW xs ys
  | _, _ => []
def rngW (a : Int) (c : Int) : Nat → List W
  | 0 => []
  | n + 1 => .int a :: rngW (a + c) c n
/-- how many turns range(a, b, c) takes -/
def turns (a b c : Int) : Nat := if c = 1 then (b - a).toNat else if c = -1 then (a - b).toNat else 0
def rangeW (a b c : Int) : List W := rngW a c (turns a b c)
def rgOk (i : Int) : Bool := decide (-4611686018427387904 ≤ i) && decide (i < 4611686018427387904)
def seqW : W → Option (List W)
  | .lst xs => some xs
  | .tup xs => some xs
  | _ => none
/-! things are the very same -/
mutual
def same : W → W → Bool
  | .non, .non => true
  | .bl a, .bl b => a == b
  | .int i, .int j => decide (i = j)
  | .str x, .str y => decide (x = y)
  | .tup xs, .tup ys => sames xs ys
  | .lst xs, .lst ys => sames xs ys
  | .dic a ks xs, .dic b js ys => (a == b) && (sames ks js && sames xs ys)
  | .hp i, .hp j => decide (i = j)
  | .fn i, .fn j => decide (i = j)
  | .clo i cs, .clo j ds => decide (i = j) && decide (cs = ds)
  | .ks xs, .ks ys => sames xs ys
  | .opq i, .opq j => decide (i = j)
  | _, _ => false
def sames : List W → List W → Bool
  | [], [] => true
  | x :: xs, y :: ys => same x y && sames xs ys
  | _, _ => false
end
/-- what a walk goes over; the lists of the heap that must stay as they are -/
structure Wk where
  ws : List W
  gs : List (Nat × List W)
def guard (gs : List (Nat × List W)) (h : HH) : Bool := gs.all fun p => match h[p.1]? with
  | some (.lst xs) => sames xs p.2
  | _ => false
/-- a list or a tuple to walk over -/
def lkW (h : HH) : W → Option Wk
  | .lst xs => some ⟨xs, []⟩
  | .tup xs => some ⟨xs, []⟩
  | .hp i => match h[i]? with
    | some (.lst xs) => some ⟨xs, [(i, xs)]⟩
    | _ => none
  | _ => none
/-- a list to walk over -/
def lkL (h : HH) : W → Option Wk
  | .tup _ => none
  | w => lkW h w
def lkZ (h : HH) : List W → Option Wk
  | [.tup xs, .tup ys] => some ⟨zipW xs ys, []⟩
  | [a, b] => match lkL h a, lkL h b with
    | some x, some y => some ⟨zipW x.ws y.ws, x.gs ++ y.gs⟩
    | _, _ => none
  | _ => none
def itE (f : ME → SL → HH → R O) (it : IT) (s : SL) (h : HH) : R Wk := match it with
  | .seq e => (f e s h).bind fun o s h => ofO (lkW h o.toW) s h
  | .rng1 b => (evDs f [b] s h).bind fun ds s h => match getDs s h ds with
    | some [.int n] => if rgOk n then .ok ⟨rangeW 0 n 1, []⟩ s h else .fail
    | _ => .fail
  | .rng2 a b => (evDs f [a, b] s h).bind fun ds s h => match getDs s h ds with
    | some [.int i, .int j] => if rgOk i && rgOk j then .ok ⟨rangeW i j 1, []⟩ s h else .fail
    | _ => .fail
  | .rng3 a b c => (evDs f [a, b, c] s h).bind fun ds s h => match getDs s h ds with
    | some [.int i, .int j, .int k] => if rgOk i && rgOk j && decide (k = -1) then .ok ⟨rangeW i j (-1), []⟩ s h else .fail
    | _ => .fail
  | .enum e => (f e s h).bind fun o s h => match lkW h o.toW with
    | some k => .ok ⟨enumW 0 k.ws, k.gs⟩ s h
    | none => .fail
  | .zip a b => (evL f [a, b] s h).bind fun os s h => ofO (lkZ h (O.toWs os)) s h
/-- the loop of a comprehension -/
def compL (tg : Tg) (own : List Nat) (gs : List (Nat × List W)) (test : SL → HH → R Bool) (elt : SL → HH → R O) : List W → List O → SL → HH → R (List O)
  | [], acc, s, h => if guard gs h then .ok acc s h else .fail
  | w :: ws, acc, s, h => if guard gs h then (match setTg (wipe s own) tg w with
    | none => .fail
    | some s => (test s h).bind fun b s h => if b then (elt s h).bind fun o s h => compL tg own gs test elt ws (acc ++ [o]) s h else compL tg own gs test elt ws acc s h) else .fail
def dcompL (tg : Tg) (own : List Nat) (gs : List (Nat × List W)) (test : SL → HH → R Bool) (key val : SL → HH → R O) : List W → List W → List W → SL → HH → R (List W × List W)
  | [], ks, vs, s, h => if guard gs h then .ok (ks, vs) s h else .fail
  | w :: ws, ks, vs, s, h => if guard gs h then (match setTg (wipe s own) tg w with
    | none => .fail
    | some s => (test s h).bind fun b s h => if b then (key s h).bind fun k s h => (val s h).bind fun v s h =>
        if keyW false k.toW && !(ks.any fun x => sameK x k.toW) then dcompL tg own gs test key val ws (ks ++ [k.toW]) (vs ++ [v.toW]) s h else .fail
      else dcompL tg own gs test key val ws ks vs s h) else .fail
def testE (f : ME → SL → HH → R Bool) (o : Option ME) (s : SL) (h : HH) : R Bool := match o with
  | none => .ok true s h
  | some c => f c s h
/-- arguments in the order of parameters: kw tells the places of the last ones -/
def pickL {α : Type} (l : List α) : List Nat → Option (List α)
  | [] => some []
  | i :: is => match l[i]?, pickL l is with
    | some x, some r => some (x :: r)
    | _, _ => none
def pickO (pk : List Nat) (l : List O) : Option (List O) := match pk with
  | [] => some l
  | i :: is => match pickL (O.toWs l) (i :: is) with
    | some ws => some (ws.map .sh)
    | none => none
def andL (f : ME → SL → HH → R O) : List ME → SL → HH → R O
  | [], _, _ => .fail
  | [e], s, h => f e s h
  | e :: es, s, h => (f e s h).bind fun o s h => match truW (vw h o.toW) with
    | some true => andL f es s h
    | some false => .ok o s h
    | none => .fail
def orL (f : ME → SL → HH → R O) : List ME → SL → HH → R O
  | [], _, _ => .fail
  | [e], s, h => f e s h
  | e :: es, s, h => (f e s h).bind fun o s h => match truW (vw h o.toW) with
    | some false => orL f es s h
    | some true => .ok o s h
    | none => .fail
def allT (f : ME → SL → HH → R Bool) : List ME → SL → HH → R Bool
  | [], s, h => .ok true s h
  | e :: es, s, h => (f e s h).bind fun b s h => if b then allT f es s h else .ok false s h
def anyT (f : ME → SL → HH → R Bool) : List ME → SL → HH → R Bool
  | [], s, h => .ok false s h
  | e :: es, s, h => (f e s h).bind fun b s h => if b then .ok true s h else anyT f es s h
/-- a list that is changed: at a slot, or in the heap -/
inductive Pl where | slot (i : Nat) | heap (i : Nat)
def evP (f : ME → SL → HH → R O) (e : ME) (s : SL) (h : HH) : R Pl := match e with
  | .var i => match s[i]? with
    | some (some (.sh (.hp j))) => match h[j]? with
      | some (.lst _) => .ok (.heap j) s h
      | _ => .fail
    | some (some (.lst _)) => .ok (.slot i) s h
    | some (some (.dic _ _ _)) => .ok (.slot i) s h
    | _ => .fail
  | e => (f e s h).bind fun o s h => match o with
    | .sh (.hp j) => match h[j]? with
      | some (.lst _) => .ok (.heap j) s h
      | _ => .fail
    | _ => .fail
/-- a list is there -/
def isLp (p : Pl) (s : SL) (h : HH) : Bool := match p with
  | .slot i => (match s[i]? with
    | some (some (.lst _)) => true
    | _ => false)
  | .heap i => (match h[i]? with
    | some (.lst _) => true
    | _ => false)
def evPl (f : ME → SL → HH → R O) (e : ME) (s : SL) (h : HH) : R Pl := (evP f e s h).bind fun p s h => if isLp p s h then .ok p s h else .fail
/-- xs.append(o) -/
def appP (p : Pl) (o : O) (s : SL) (h : HH) : R Unit := match p with
  | .slot i => match s[i]? with
    | some (some (.lst xs)) => if xs.length < line then .ok () (s.set i (some (.lst (xs ++ [o])))) h else .fail
    | _ => .fail
  | .heap i => match h[i]? with
    | some (.lst xs) => if xs.length < line then .ok () s (h.set i (.lst (xs ++ [o.toW]))) else .fail
    | _ => .fail
/-- xs.pop(i) -/
def popP (p : Pl) (i : Int) (s : SL) (h : HH) : R O := match p with
  | .slot j => match s[j]? with
    | some (some (.lst xs)) => match ixN xs.length i with
      | some n => match xs[n]? with
        | some o => .ok o (s.set j (some (.lst (xs.eraseIdx n)))) h
        | none => .fail
      | none => .fail
    | _ => .fail
  | .heap j => match h[j]? with
    | some (.lst xs) => match ixN xs.length i with
      | some n => match xs[n]? with
        | some o => .ok (.sh o) s (h.set j (.lst (xs.eraseIdx n)))
        | none => .fail
      | none => .fail
    | _ => .fail
/-- o[k] = v -/
def stP1 (p : Pl) (k : W) (o : O) (s : SL) (h : HH) : R Unit := match p with
  | .slot j => match s[j]? with
    | some (some (.lst xs)) => match k with
      | .int i => match ixN xs.length i with
        | some n => .ok () (s.set j (some (.lst (xs.set n o)))) h
        | none => .fail
      | _ => .fail
    | _ => .fail
  | .heap j => match h[j]? with
    | some (.lst xs) => match k with
      | .int i => match ixN xs.length i with
        | some n => .ok () s (h.set j (.lst (xs.set n o.toW)))
        | none => .fail
      | _ => .fail
    | _ => .fail
def getW : W → W → Option W
  | .dic t ks vs, k => if keyW t k then lookK k ks vs else none
  | x, k => idxW x k
def inD (k : W) : W → Option Bool
  | .dic t ks vs => if keyW t k then some (lookK k ks vs).isSome else none
  | _ => none
def cmpD (op : COp) (x y : W) : Option Bool := match op, y with
  | .isin, .dic _ _ _ => inD x y
  | .notin, .dic _ _ _ => match inD x y with
    | some b => some (!b)
    | none => none
  | op, y => cmpW op x y
def isNon : W → Bool
  | .non => true
  | _ => false
def cmp2E (f : ME → SL → HH → R O) (op op' : COp) (a b c : ME) (s : SL) (h : HH) : R Bool := (evD f a s h).bind fun d s h => (evD f b s h).bind fun d' s h => match d.get s h, d'.get s h with
  | some x, some y => match cmpD op x y with
    | some true => (evD f c s h).bind fun d3 s h => match d'.get s h, d3.get s h with
      | some y, some z => ofO (cmpD op' y z) s h
      | _, _ => .fail
    | some false => .ok false s h
    | none => .fail
  | _, _ => .fail
def celsOf (ce : List (Option Nat)) : List Nat → Option (List Nat)
  | [] => some []
  | i :: is => match ce[i]?, celsOf ce is with
    | some (some j), some js => some (j :: js)
    | _, _ => none
def wh : Nat := 1000000000
def isT? : W → Option Bool
  | .bl b => some b
  | _ => none
/-- a tuple of what a list holds -/
def tupO : O → Option O
  | .lst os => match shs? os with
    | some ws => some (.sh (.tup ws))
    | none => some (.tup os)
  | .tup os => some (.tup os)
  | .sh (.lst ws) => some (.sh (.tup ws))
  | .sh (.tup ws) => some (.sh (.tup ws))
  | _ => none
/-- the things of some slots, looked at -/
def lookS (s : SL) : List Nat → Option (List W)
  | [] => some []
  | i :: is => match s[i]?, lookS s is with
    | some (some o), some ws => some (o.toW :: ws)
    | _, _ => none
def hide (h : HH) : HH := h.map fun _ => .cell none
/-- neither list nor object within reach -/
def flat0 : W → Bool
  | .non => true | .bl _ => true | .int _ => true | .str _ => true
  | _ => false
/-- the lists of the heap hidden; cells stay -/
def fgt (h : HH) : HH := h.map fun x => match x with
  | .lst _ => .cell none
  | x => x
def sameC : HObj → HObj → Bool
  | .cell none, .cell none => true
  | .cell (some v), .cell (some w) => same v w
  | _, _ => false
/-- the heap begins so -/
def sameHs : HH → HH → Bool
  | [], _ => true
  | x :: xs, y :: ys => sameC x y && sameHs xs ys
  | _ :: _, [] => false
/-- cells kept of some slots; further ones -/
def keepCe (fr : List Nat) : Nat → List (Option Nat) → List (Option Nat)
  | _, [] => []
  | i, c :: ce => (if fr.contains i then c else none) :: keepCe fr (i + 1) ce
def putCe : List Nat → Nat → List (Option Nat) → List (Option Nat)
  | [], _, ce => ce
  | i :: is, j, ce => putCe is (j + 1) (ce.set i (some j))
/-- an expression in a block that has cells of its own: the heap's lists are hidden, and all is as it was behind it -/
def ownE (f : List (Option Nat) → SL → HH → R O) (fr oc : List Nat) (ce : List (Option Nat)) (s : SL) (h : HH) : R O :=
  match f (putCe oc h.length (keepCe fr 0 ce)) s (fgt h ++ List.replicate oc.length (.cell none)) with
  | .ok o s' h' => if sameHs (fgt h) h' && (belowS h.length s' && belowO h.length o) then .ok o s' h else .fail
  | _ => .fail
def bcallR (cf : CF) (j : Nat) (is : List Nat) (s : SL) (h : HH) : R O := match lookS s is with
  | some ws => match cf (.fn j) (ws.map .sh) (hide h) with
    | .ok (.sh w) _ h' => if flat0 w && decide (h'.length = h.length) then .ok (.sh w) s h else .fail
    | _ => .fail
  | none => .fail
mutual
def evE (cf : CF) (ce : List (Option Nat)) : Nat → ME → SL → HH → R O
  | 0, _, _, _ => .fail
  | n + 1, e, s, h => match e with
    | .cst w => .ok (.sh w) s h
    | .var i => match rdS s i with
      | some (w, s) => .ok (.sh w) s h
      | none => .fail
    | .mv i => match s[i]? with
      | some (some o) => .ok o (s.set i none) h
      | _ => .fail
    | .cel i => match ce[i]? with
      | some (some j) => match h[j]? with
        | some (.cell (some w)) => .ok (.sh w) s h
        | _ => .fail
      | _ => .fail
    | .fn f => .ok (.sh (.fn f)) s h
    | .bin op a b => ev2 (evE cf ce n) a b s h fun x y s h => ofO (binW op x y) s h
    | .neg a => (ev1 (evE cf ce n) a s h).bind fun w s h => match w with
      | .int i => .ok (.sh (.int (-i))) s h
      | _ => .fail
    | .cmp op a b => ev2 (evE cf ce n) a b s h fun x y s h => match cmpD op x y with
      | some b => .ok (.sh (.bl b)) s h
      | none => .fail
    | .cmp2 op op' a b c => (cmp2E (evE cf ce n) op op' a b c s h).bind fun b s h => .ok (.sh (.bl b)) s h
    | .isn ne a => (ev1 (evE cf ce n) a s h).bind fun w s h => .ok (.sh (.bl (if ne then !isNon w else isNon w))) s h
    | .isb ne b a => (ev1 (evE cf ce n) a s h).bind fun w s h => match w with
      | .bl c => .ok (.sh (.bl (if ne then !(b == c) else b == c))) s h
      | _ => .fail
    | .and_ es => andL (evE cf ce n) es s h
    | .or_ es => orL (evE cf ce n) es s h
    | .not_ a => (ev1 (evE cf ce n) a s h).bind fun w s h => match truW w with
      | some b => .ok (.sh (.bl (!b))) s h
      | none => .fail
    | .ite c a b => (evT cf ce n c s h).bind fun t s h => if t then evE cf ce n a s h else evE cf ce n b s h
    | .tup es => (evL (evE cf ce n) es s h).bind fun os s h => match shs? os with
      | some ws => .ok (.sh (.tup ws)) s h
      | none => .ok (.tup os) s h
    | .lst es => (evL (evE cf ce n) es s h).bind fun os s h => .ok (.lst os) s h
    | .dnew t => .ok (.dic t [] []) s h
    | .idx a b => ev2 (evE cf ce n) a b s h fun x y s h => match getW x y with
      | some w => .ok (.sh w) s h
      | none => .fail
    | .slc a lo hi => (evD (evE cf ce n) a s h).bind fun d s h => (evO (evE cf ce n) lo s h).bind fun l s h => (evO (evE cf ce n) hi s h).bind fun u s h => match d.get s h with
      | some x => ofO (slcW x l u) s h
      | none => .fail
    | .rev a => (ev1 (evE cf ce n) a s h).bind fun w s h => ofO (revW w) s h
    | .call f es kw => (evL (evE cf ce n) es s h).bind fun os s h => match pickO kw os with
      | some os => callC cf ce (.fn f) os s h
      | none => .fail
    | .callv g es => (evE cf ce n g s h).bind fun o s h => match calleeO o with
      | some c => (evL (evE cf ce n) es s h).bind fun os s h => callC cf ce c os s h
      | none => .fail
    | .bi b es => (evDs (evE cf ce n) es s h).bind fun ds s h => match getDs s h ds with
      | some ws => ofO (biW b ws) s h
      | none => .fail
    | .lset a => (evE cf ce n a s h).bind fun o s h => ofO (lensetF [o.toW]) s h
    | .isty ts a => (ev1 (evE cf ce n) a s h).bind fun w s h => match isTyW ts w with
      | some b => .ok (.sh (.bl b)) s h
      | none => .fail
    | .pop o => (evP (evE cf ce n) o s h).bind fun p s h => popP p (-1) s h
    | .popi o i => (evPl (evE cf ce n) o s h).bind fun p s h => (ev1 (evE cf ce n) i s h).bind fun w s h => match w with
      | .int k => if rgOk k then popP p k s h else .fail
      | _ => .fail
    | .index a b => (evD (evE cf ce n) a s h).bind fun d s h => match d.get s h with
      | some (.lst _) => (ev1 (evE cf ce n) b s h).bind fun y s h => match d.get s h with
        | some (.lst xs) => match indexW (.lst xs) y with
          | some w => .ok (.sh w) s h
          | none => .fail
        | _ => .fail
      | _ => .fail
    | .getd a b c => (evD (evE cf ce n) a s h).bind fun d s h => match d.get s h with
      | some (.dic _ _ _) => (evD (evE cf ce n) b s h).bind fun d' s h => (evE cf ce n c s h).bind fun z s h => match d.get s h, d'.get s h with
        | some (.dic t ks vs), some k => if keyW t k then (match lookK k ks vs with
          | some w => .ok (.sh w) s h
          | none => .ok z s h) else .fail
        | _, _ => .fail
      | _ => .fail
    | .comp own tg it ifs elt => (itE (evE cf ce n) it s h).bind fun k s h => if shOk s own && decide (k.ws.length ≤ line) then
      (compL tg own k.gs (testE (evT cf [] n) ifs) (evE cf [] n elt) k.ws [] s h).nox.bind fun os s' h => .ok (.lst os) (unwipe s own s') h else .fail
    | .compX own tg it ifs elt fr oc => (itE (evE cf ce n) it s h).bind fun k s h => if shOk s own && decide (k.ws.length ≤ line) then
      (compL tg own k.gs (testE (evT cf [] n) ifs) (ownE (fun ce => evE cf ce n elt) fr oc ce) k.ws [] s h).nox.bind fun os s' h => .ok (.lst os) (unwipe s own s') h else .fail
    | .dcomp own t tg it ifs k v => (itE (evE cf ce n) it s h).bind fun kk s h => if shOk s own && decide (kk.ws.length ≤ line) then
      (dcompL tg own kk.gs (testE (evT cf [] n) ifs) (evE cf [] n k) (evE cf [] n v) kk.ws [] [] s h).nox.bind fun p s' h => .ok (.dic false p.1 (p.2.map .sh)) (unwipe s own s') h else .fail
    | .lam l is => match celsOf ce is with
      | some cs => .ok (.sh (.clo l cs)) s h
      | none => .fail
    | .prom a => (evE cf ce n a s h).bind fun o s h => match o with
      | .lst os => .ok (.sh (.hp h.length)) s (h ++ [.lst (O.toWs os)])
      | _ => .fail
    | .lrng a => (ev1 (evE cf ce n) a s h).bind fun w s h => match w with
      | .int k => if rgOk k && decide (k.toNat ≤ line) then .ok (.lst ((rangeW 0 k 1).map .sh)) s h else .fail
      | _ => .fail
    | .lrng2 a b => ev2 (evE cf ce n) a b s h fun x y s h => match x, y with
      | .int i, .int j => if rgOk i && (rgOk j && decide ((j - i).toNat ≤ line)) then .ok (.lst ((rangeW i j 1).map .sh)) s h else .fail
      | _, _ => .fail
    | .kin ne a ks => (ev1 (evE cf ce n) a s h).bind fun w s h => match w with
      | .str z => .ok (.sh (.bl (if ne then !ks.contains z else ks.contains z))) s h
      | _ => .fail
    | .tupS es => (evLS (evE cf ce n) es s h).bind fun os s h => if os.length ≤ line then (match shs? os with
      | some ws => .ok (.sh (.tup ws)) s h
      | none => .ok (.tup os) s h) else .fail
    | .lstS es => (evLS (evE cf ce n) es s h).bind fun os s h => if os.length ≤ line then .ok (.lst os) s h else .fail
    | .mrk t a => (evE cf ce n a s h).bind fun o s h => callR cf (.tok t) [o] s h
    | .btup a => (evE cf ce n a s h).bind fun o s h => ofO (tupO o) s h
    | .shr a => (evE cf ce n a s h).bind fun o s h => .ok (.sh o.toW) s h
    | .bcall j is => bcallR cf j is s h
    | .callvK g es kw fs => (evE cf ce n g s h).bind fun o s h => match o with
      | .sh (.fn j) => if fs.contains j then (evL (evE cf ce n) es s h).bind fun os s h => match pickO kw os with
        | some os => callC cf ce (.fn j) os s h
        | none => .fail
        else .fail
      | _ => .fail
    | .items a => (evE cf ce n a s h).bind fun o s h => match o.toW with
      | .dic false ks vs => .ok (.lst ((zipW ks vs).map .sh)) s h
      | _ => .fail
def evT (cf : CF) (ce : List (Option Nat)) : Nat → ME → SL → HH → R Bool
  | 0, _, _, _ => .fail
  | n + 1, e, s, h => match e with
    | .not_ a => (evT cf ce n a s h).bind fun b s h => .ok (!b) s h
    | .and_ es => allT (evT cf ce n) es s h
    | .or_ es => anyT (evT cf ce n) es s h
    | .ite _ _ _ => .fail
    | .cmp2 op op' a b c => cmp2E (evE cf ce n) op op' a b c s h
    | .isn ne a => (ev1 (evE cf ce n) a s h).bind fun w s h => .ok (if ne then !isNon w else isNon w) s h
    | .kin ne a ks => (ev1 (evE cf ce n) a s h).bind fun w s h => match w with
      | .str z => .ok (if ne then !ks.contains z else ks.contains z) s h
      | _ => .fail
    | .isb ne b a => (ev1 (evE cf ce n) a s h).bind fun w s h => match w with
      | .bl c => .ok (if ne then !(b == c) else b == c) s h
      | _ => .fail
    | .cmp op a b => ev2 (evE cf ce n) a b s h fun x y s h => ofO (cmpD op x y) s h
    | e => (ev1 (evE cf ce n) e s h).bind fun w s h => ofO (truW w) s h
end
inductive Fl where | next | ret (o : O) | brk | cont
def tryK (hs : List (Nat × W × Bool)) (c : Nat) (ws : List W) (s : SL) (h : HH) : R Fl := match hs.lookup c with
  | some (w, true) => match ws with
    | [x] => .ok (.ret (.sh (.tup [w, x]))) s h
    | _ => .fail
  | some (w, false) => .ok (.ret (.sh (.tup [w, .non]))) s h
  | none => .exc c ws s h
/-- what a list is made longer by -/
def extO : O → Option (List O)
  | .lst ys => some ys
  | .sh (.lst ys) => some (ys.map .sh)
  | _ => none
/-- the values with one put in; whether its key was there -/
def putV? (k : W) (v : O) : List W → List O → Option (List O × Bool)
  | [], [] => some ([], false)
  | x :: xs, y :: ys => match putV? k v xs ys with
    | some (r, b) => if sameK x k then (if b then none else some (v :: ys, true)) else some (y :: r, b)
    | none => none
  | _, _ => none
def putD (k : W) (v : O) (ks : List W) (vs : List O) : Option (List W × List O) := match putV? k v ks vs with
  | some (r, b) => if b then some (ks, r) else if ks.length < line then some (ks ++ [k], r ++ [v]) else none
  | none => none
def forL (tg : Tg) (gs : List (Nat × List W)) (body : SL → HH → R Fl) : List W → SL → HH → R Fl
  | [], s, h => if guard gs h then .ok .next s h else .fail
  | w :: ws, s, h => if guard gs h then (match setTg s tg w with
    | none => .fail
    | some s => (body s h).bind fun f s h => match f with
      | .next => forL tg gs body ws s h
      | .cont => forL tg gs body ws s h
      | .brk => .ok .next s h
      | .ret o => .ok (.ret o) s h) else .fail
/-- a loop's body with the heap's lists hidden, all as it was behind it -/
def backB (g : SL → HH → R Fl) (s : SL) (h : HH) : R Fl := match g s (fgt h) with
  | .ok fl s' h' => if sameHs (fgt h) h' && belowS h.length s' then (match fl with
    | .ret o => if belowO h.length o then .ok (.ret o) s' h else .fail
    | fl => .ok fl s' h) else .fail
  | _ => .fail
def whileL (test : SL → HH → R Bool) (body : SL → HH → R Fl) : Nat → SL → HH → R Fl
  | 0, _, _ => .fail
  | n + 1, s, h => (test s h).bind fun b s h => if b then (body s h).bind fun f s h => match f with
      | .next => whileL test body n s h
      | .cont => whileL test body n s h
      | .brk => .ok .next s h
      | .ret o => .ok (.ret o) s h
    else .ok .next s h
def exL (f : MS → SL → HH → R Fl) : List MS → SL → HH → R Fl
  | [], s, h => .ok .next s h
  | m :: ms, s, h => (f m s h).bind fun fl s h => match fl with
    | .next => exL f ms s h
    | fl => .ok fl s h
/-- the fuel of an expression: how deep it may be -/
def ef : Nat := 60
def exS (cf : CF) (ce : List (Option Nat)) : Nat → MS → SL → HH → R Fl
  | 0, _, _, _ => .fail
  | n + 1, m, s, h => match m with
    | .expr e => (evE cf ce ef e s h).bind fun _ s h => .ok .next s h
    | .set i e => (evE cf ce ef e s h).bind fun o s h => .ok .next (s.set i (some o)) h
    | .par is es => (evL (evE cf ce ef) es s h).bind fun os s h => match setOs s is os with
      | some s => .ok .next s h
      | none => .fail
    | .unp is e => (evE cf ce ef e s h).bind fun o s h => match o with
      | .sh (.tup ws) => match setMany s is ws with
        | some s => .ok .next s h
        | none => .fail
      | .tup os => match setOs s is os with
        | some s => .ok .next s h
        | none => .fail
      | _ => .fail
    | .stI o i e => (evE cf ce ef e s h).bind fun v s h => (evP (evE cf ce ef) o s h).bind fun p s h => (ev1 (evE cf ce ef) i s h).bind fun k s h => (stP1 p k v s h).bind fun _ s h => .ok .next s h
    | .stP o i o' i' es => (evL (evE cf ce ef) es s h).bind fun vs s h => match vs with
      | [v, v'] => (evP (evE cf ce ef) o s h).bind fun p s h => (ev1 (evE cf ce ef) i s h).bind fun k s h => (stP1 p k v s h).bind fun _ s h =>
        (evP (evE cf ce ef) o' s h).bind fun p s h => (ev1 (evE cf ce ef) i' s h).bind fun k s h => (stP1 p k v' s h).bind fun _ s h => .ok .next s h
      | _ => .fail
    | .aug op i e => match s[i]? with
      | some (some (.sh (.int a))) => (ev1 (evE cf ce ef) e s h).bind fun w s h => match w with
        | .int b => (match op with
          | .add => .ok .next (s.set i (some (.sh (.int (a + b))))) h
          | .sub => .ok .next (s.set i (some (.sh (.int (a - b))))) h
          | _ => .fail)
        | _ => .fail
      | _ => .fail
    | .app o e => (evPl (evE cf ce ef) o s h).bind fun p s h => (evE cf ce ef e s h).bind fun v s h => (appP p v s h).bind fun _ s h => .ok .next s h
    | .ext i e => match s[i]? with
      | some (some (.lst _)) => (evE cf ce ef e s h).bind fun v s h => match s[i]?, extO v with
        | some (some (.lst xs)), some ys => if xs.length + ys.length ≤ line then .ok .next (s.set i (some (.lst (xs ++ ys)))) h else .fail
        | _, _ => .fail
      | _ => .fail
    | .ret e => (evE cf ce ef e s h).bind fun o s h => .ok (.ret o) s h
    | .retN => .ok (.ret (.sh .non)) s h
    | .if_ c a b => (evT cf ce ef c s h).bind fun t s h => if t then exL (exS cf ce n) a s h else exL (exS cf ce n) b s h
    | .for_ tg it body => (itE (evE cf ce ef) it s h).bind fun k s h => forL tg k.gs (exL (exS cf ce n) body) k.ws s h
    | .forT tg it body => (itE (evE cf ce ef) it s h).bind fun k s h => forL tg k.gs (backB (exL (exS cf ce n) body)) k.ws s h
    | .while_ m c body => whileL (evT cf ce ef c) (exL (exS cf ce n) body) m s h
    | .raise_ c es => (evL (evE cf ce ef) es s h).bind fun os s h => .exc c (O.toWs os) s h
    | .stD i ke e => (evE cf ce ef e s h).bind fun v s h => match s[i]? with
      | some (some (.dic _ _ _)) => (ev1 (evE cf ce ef) ke s h).bind fun k s h => match s[i]? with
        | some (some (.dic t ks vs)) => if keyW t k && decide (ks.length < line) then (match putD k v ks vs with
          | some (ks', vs') => .ok .next (s.set i (some (.dic t ks' vs'))) h
          | none => .fail) else .fail
        | _ => .fail
      | _ => .fail
    | .spl j i => match s[i]? with
      | some (some o) => match cf (.spl j) [o] h with
        | .ok o' _ _ => .ok .next (s.set i (some o')) h
        | _ => .fail
      | _ => .fail
    | .tryR e hs => match evE cf ce ef e s h with
      | .ok o s h => .ok (.ret o) s h
      | .exc c ws s h => tryK hs c ws s h
      | .fail => .fail
    | .brk => .ok .brk s h
    | .cont => .ok .cont s h
    | .pass => .ok .next s h
    | .junk => .fail
structure DefR where
  np : Nat
  ns : Nat
  cl : List Bool
  body : List MS
  fin : Option ME
/-- a lambda: parameters, captured names, all its names -/
structure LamR where
  np : Nat
  nf : Nat
  ns : Nat
  body : ME
/-- the fuel of statements: how deep they lie within one another -/
def sf : Nat := 40
def mkCe : List Bool → Nat → List (Option Nat)
  | [], _ => []
  | false :: bs, n => none :: mkCe bs n
  | true :: bs, n => some n :: mkCe bs (n + 1)
/-- the frame goes: its cells stay as they are -/
def leave (ce : List (Option Nat)) (o : O) (s : SL) (h : HH) : R O := match pubC 0 ce s h with
  | some (_, _, h) => .ok o [] h
  | none => .fail
/-- fin: the value that is returned at the very end, where the frame's cells outlive it -/
def runD (cf : CF) (d : DefR) (os : List O) (h : HH) : R O :=
  if os.length = d.np then match d.fin with
    | none => match exL (exS cf (mkCe d.cl h.length) sf) d.body (os.map some ++ List.replicate (d.ns - d.np) none) (h ++ List.replicate (d.cl.count true) (.cell none)) with
      | .ok (.ret o) s h' => .ok o [] h'
      | .ok .next s h' => .ok (.sh .non) [] h'
      | .exc c ws _ h' => .exc c ws [] h'
      | _ => .fail
    | some e => match exL (exS cf (mkCe d.cl h.length) sf) d.body (os.map some ++ List.replicate (d.ns - d.np) none) (h ++ List.replicate (d.cl.count true) (.cell none)) with
      | .ok .next s h' => match evE cf (mkCe d.cl h.length) ef e s h' with
        | .ok o s h' => leave (mkCe d.cl h.length) o s h'
        | .exc c ws _ h' => .exc c ws [] h'
        | .fail => .fail
      | .exc c ws _ h' => .exc c ws [] h'
      | _ => .fail
  else .fail
/-- the cells of a lambda: what they hold -/
def takeC : List Nat → HH → Option (List W × HH)
  | [], h => some ([], h)
  | j :: js, h => match h[j]? with
    | some (.cell (some w)) => match takeC js (h.set j (.cell none)) with
      | some (ws, h) => some (w :: ws, h)
      | none => none
    | _ => none
/-- a lambda is left: all its cells are known again -/
def leaveL (ce : List (Option Nat)) (cs : List Nat) (s : SL) (h : HH) : Option HH := match pubC 0 ce s h with
  | some (js, _, h) => if js = cs then some h else none
  | none => none
def runL (cf : CF) (d : LamR) (cs : List Nat) (os : List O) (h : HH) : R O :=
  if os.length = d.np ∧ cs.length = d.nf then match takeC cs h with
    | some (ws, h) => match evE cf (List.replicate d.np none ++ cs.map some) ef d.body (os.map some ++ (ws.map fun w => some (.sh w)) ++ List.replicate (d.ns - d.np - d.nf) none) h with
      | .ok o s h => match leaveL (List.replicate d.np none ++ cs.map some) cs s h with
        | some h => .ok o [] h
        | none => .fail
      | .exc c ws s h => match leaveL (List.replicate d.np none ++ cs.map some) cs s h with
        | some h => .exc c ws [] h
        | none => .fail
      | .fail => .fail
    | none => .fail
  else .fail
def plainT : Nat → W → Bool
  | 0, _ => false
  | n + 1, w => match w with
    | .non => true | .bl _ => true | .int _ => true | .str _ => true
    | .tup ws => ws.all (plainT n)
    | _ => false
def late : W := .str [108, 97, 116, 101]
def allO (f : O → Option O) : List O → Option (List O)
  | [] => some []
  | o :: os => match f o, allO f os with
    | some p, some ps => some (p :: ps)
    | _, _ => none
/-- all lists of a thing made longer -/
def spoilN : Nat → O → Option O
  | 0, _ => none
  | n + 1, o => match o with
    | .lst xs => match allO (spoilN n) xs with
      | some ys => if ys.length < line then some (.lst (ys ++ [.sh late])) else none
      | none => none
    | .tup xs => match allO (spoilN n) xs with
      | some ys => some (.tup ys)
      | none => none
    | .dic t ks vs => some (.dic t ks vs)
    | .sh w => if plainT (n + 1) w then some (.sh w) else none
def splR (n : Nat) (os : List O) (h : HH) : R O := match os with
  | [o] => ofO (spoilN n o) [] h
  | _ => .fail
def callD (P : List DefR) (LL : List LamR) : Nat → CF
  | 0 => fun _ _ _ => .fail
  | n + 1 => fun c os h => match c with
    | .fn f => match P[f]? with
      | some d => runD (callD P LL n) d os h
      | none => .fail
    | .clo l cs => match LL[l]? with
      | some d => runL (callD P LL n) d cs os h
      | none => .fail
    | .tok _ => .fail
    | .spl _ => splR (n + 1) os h
/-- the thing is what stands at the mark t of its length -/
def sealO (tok : Nat → W) (t : Nat) (os : List O) (h : HH) : R O := match os with
  | [o] => match partsN o.toW with
    | some n => if decide (n < 64) && (same o.toW (tok (t * 64 + n)) && belowW 0 (tok (t * 64 + n))) then .ok (.sh (.opq (t * 64 + n))) [] h else .fail
    | none => .fail
  | _ => .fail
/-- with answers known beforehand, over marks -/
def callO (tok : Nat → W) (orc : Nat → List O → Option O) (pl : Nat → Bool) (n0 : Nat) (P : List DefR) (LL : List LamR) : Nat → CF
  | 0 => callD P LL n0
  | n + 1 => fun c os h => match c with
    | .fn f => match orc f os with
      | some o => .ok o [] h
      | none => if pl f then callD P LL (n0 + n + 1) (.fn f) os h else (match P[f]? with
        | some d => runD (callO tok orc pl n0 P LL n) d os h
        | none => .fail)
    | .clo l cs => match LL[l]? with
      | some d => runL (callO tok orc pl n0 P LL n) d cs os h
      | none => .fail
    | .tok t => sealO tok t os h
    | .spl _ => splR (n0 + (n + 1)) os h
end Mini
set_option Elab.async false
set_option linter.all false
set_option maxRecDepth 100000
set_option maxHeartbeats 1000000
/-! Mini: how its values lie in the abstract heap. -/
namespace Mini
open PySem L2
/-- what is known of the text: where its defs and its error classes stand -/
structure LamI where
  qual : Str
  params : Arguments
  body : Expr
  scope : Scope
  fv : List Str
structure GS where
  K : PySem.W.Frag
  fa : Nat → Addr
  fd : Nat → FuncData
  ca : Nat → Addr
  cf : Nat → Option Str
  lok : Nat → LamI → Prop
  fok : Nat → Prop
  cok : Nat → Prop
  tabs : List (Addr × Str)
  tok : Nat → W
  spl : Nat → Prop
/-- own: the cells of the frame that runs -/
structure GI extends GS where
  own : List (Nat × Addr)
instance : Coe GI GS := ⟨GI.toGS⟩
abbrev cellHO (o : Obj) : HO := .frz o (.ext fun _ => True)
/-- a function object of a lambda -/
def lamHO (li : LamI) (cells : List (Str × Addr)) (pm : Value) (c' : Addr) (ctv : Value) : HO :=
  .frz (PySem.W.kla_obj "<lambda>" li.qual li.params li.body li.scope cells pm c' ctv) (.ext fun _ => True)
def kOf : W → Option Key
  | .int i => some (Sum.inl i)
  | .str s => some (Sum.inr ⟨s.toArray⟩)
  | _ => none
def ksOf : List W → Option (List Key)
  | [] => some []
  | x :: xs => match kOf x, ksOf xs with
    | some k, some ks => some (k :: ks)
    | _, _ => none
def ktOf : W → Option (List Key)
  | .tup xs => ksOf xs
  | _ => none
abbrev Fz := Addr → Prop
section
variable (G : GS) (F : Fz) (r : List Addr) (H : Hp)
mutual
inductive RW : W → V → Prop where
  | non : RW .non .non
  | bl (b : Bool) : RW (.bl b) (.bl b)
  | int (i : Int) : RW (.int i) (.int i)
  | str (s : List Nat) : RW (.str s) (.str ⟨s.toArray⟩)
  | tup {a : Addr} {xs : List W} {vs : List V} : H a = some (.tup vs) → RWs xs vs → RW (.tup xs) (.ref a)
  | lst {a : Addr} {xs : List W} {vs : List V} : F a → H a = some (.lst vs) → RWs xs vs → RW (.lst xs) (.ref a)
  | ks {a : Addr} {xs : List W} {vs : List V} : ((∀ H', SqL G.K H' a vs) ∨ (∃ o, H a = some (.frz o (.lst vs))) ∨ (F a ∧ H a = some (.lst vs))) → RWs xs vs → RW (.ks xs) (.ref a)
  | dicK {a : Addr} {ks xs : List W} {kvs : List (Key × V)} : F a → H a = some (.dK kvs) → ks.map kOf = kvs.map (fun p => some p.1) → RWs xs (kvs.map (·.2)) → RW (.dic false ks xs) (.ref a)
  | dicT {a : Addr} {ks xs : List W} {kvs : List (List Key × V)} : F a → H a = some (.dT kvs) → ks.map ktOf = kvs.map (fun p => some p.1) → RWs xs (kvs.map (·.2)) → RW (.dic true ks xs) (.ref a)
  | hp {i : Nat} {a : Addr} : r[i]? = some a → RW (.hp i) (.ref a)
  | opq {i : Nat} {a : Addr} : RW (G.tok i) (.ref a) → partsN (G.tok i) = some (i % 64) ∧ belowW 0 (G.tok i) = true → RW (.opq i) (.ref a)
  | fn {f : Nat} : G.fok f → RW (.fn f) (.ref (G.fa f))
  | clo {l : Nat} {li : LamI} {cs : List Nat} {a c' : Addr} {pm ctv : Value} {cells : List (Str × Addr)} : G.lok l li → H a = some (lamHO li cells pm c' ctv) → H c' = some (LamX.CodeO c' li.qual) → cs.length = li.fv.length →
      (∀ (k j : Nat) (x : Str), cs[k]? = some j → li.fv[k]? = some x → ∃ c, cells.lookup x = some c ∧ r[j]? = some c) → (∀ (x y : Str) (c : Addr), cells.lookup x = some c → cells.lookup y = some c → x = y) →
      (∀ (x : Str) (c : Addr), cells.lookup x = some c → x ∈ li.fv) → RW (.clo l cs) (.ref a)
inductive RWs : List W → List V → Prop where
  | nil : RWs [] []
  | cons {x : W} {v : V} {xs : List W} {vs : List V} : RW x v → RWs xs vs → RWs (x :: xs) (v :: vs)
end
mutual
inductive RO : O → V → List Addr → Prop where
  | sh {w : W} {v : V} : RW G F r H w v → RO (.sh w) v []
  | lst {a : Addr} {xs : List O} {vs : List V} {L : List Addr} : H a = some (.lst vs) → ROs xs vs L → RO (.lst xs) (.ref a) (a :: L)
  | tup {a : Addr} {xs : List O} {vs : List V} {L : List Addr} : H a = some (.tup vs) → ROs xs vs L → RO (.tup xs) (.ref a) L
  | dicK {a : Addr} {ks : List W} {xs : List O} {kvs : List (Key × V)} {L : List Addr} : H a = some (.dK kvs) → ks.map kOf = kvs.map (fun p => some p.1) → ROs xs (kvs.map (·.2)) L → RO (.dic false ks xs) (.ref a) (a :: L)
  | dicT {a : Addr} {ks : List W} {xs : List O} {kvs : List (List Key × V)} {L : List Addr} : H a = some (.dT kvs) → ks.map ktOf = kvs.map (fun p => some p.1) → ROs xs (kvs.map (·.2)) L → RO (.dic true ks xs) (.ref a) (a :: L)
inductive ROs : List O → List V → List Addr → Prop where
  | nil : ROs [] [] []
  | cons {x : O} {v : V} {xs : List O} {vs : List V} {L M : List Addr} : RO x v L → ROs xs vs M → ROs (x :: xs) (v :: vs) (L ++ M)
end
/-- the slots -/
inductive RS : SL → L2.St → List Addr → Prop where
  | nil : RS [] [] []
  | nn {x : Option V} {s : SL} {st : L2.St} {L : List Addr} : RS s st L → RS (Option.none :: s) (x :: st) L
  | so {o : O} {v : V} {s : SL} {st : L2.St} {L M : List Addr} : RO G F r H o v L → RS s st M → RS (Option.some o :: s) (Option.some v :: st) (L ++ M)
/-- the shared things that change -/
inductive RH : HH → List Addr → List Addr → Prop where
  | nil : RH [] [] []
  | lst {a : Addr} {xs : List W} {vs : List V} {h : HH} {q L : List Addr} : H a = Option.some (.lst vs) → RWs G F r H xs vs → RH h q L → RH (.lst xs :: h) (a :: q) (a :: L)
  | cel {a : Addr} {o : Obj} {u : Value} {w : W} {v : V} {h : HH} {q L : List Addr} : H a = Option.some (cellHO o) → o.data = .cell (Option.some u) → RelV v u → RW G F r H w v → RH h q L → RH (.cell (Option.some w) :: h) (a :: q) (a :: L)
  | cel0 {a : Addr} {h : HH} {q L : List Addr} : RH h q L → RH (.cell Option.none :: h) (a :: q) L
end
/-- what steps keep -/
structure Le (F : Fz) (r : List Addr) (H : Hp) (F' : Fz) (r' : List Addr) (H' : Hp) : Prop where
  f : ∀ a, F a → F' a
  k : ∀ a, F a → H' a = H a
  p : ∃ m, r' = r ++ m
  t : ∀ a xs, H a = some (.tup xs) → H' a = some (.tup xs)
  z : ∀ a o u, H a = some (.frz o u) → ((∃ fd, o.data = .func fd) ∨ ∃ xs, u = .lst xs) → H' a = some (.frz o u)
  x : ∀ a φ, H a = some (.ext φ) → H' a = some (.ext φ)
theorem Le.refl (F : Fz) (r : List Addr) (H : Hp) : Le F r H F r H := ⟨fun _ h => h, fun _ _ => rfl, ⟨[], by simp⟩, fun _ _ h => h, fun _ _ _ h _ => h, fun _ _ h => h⟩
theorem Le.trans {F F1 F2 : Fz} {r r1 r2 : List Addr} {H H1 H2 : Hp} (a : Le F r H F1 r1 H1) (b : Le F1 r1 H1 F2 r2 H2) : Le F r H F2 r2 H2 :=
  ⟨fun x h => b.f x (a.f x h), fun x h => (b.k x (a.f x h)).trans (a.k x h), by
    obtain ⟨m, e⟩ := a.p
    obtain ⟨n, e'⟩ := b.p
    exact ⟨m ++ n, by rw [e', e, List.append_assoc]⟩, fun x xs h => b.t x xs (a.t x xs h), fun x o u h e => b.z x o u (a.z x o u h e) e, fun x φ h => b.x x φ (a.x x φ h)⟩
theorem Le.at {F F' : Fz} {r r' : List Addr} {H H' : Hp} (l : Le F r H F' r' H') {i : Nat} {a : Addr} (h : r[i]? = some a) : r'[i]? = some a := by
  obtain ⟨m, e⟩ := l.p
  rw [e, List.getElem?_append_left]
  · exact h
  · exact (List.getElem?_eq_some_iff.mp h).1
section
variable {G : GS} {F F' : Fz} {r r' : List Addr} {H H' : Hp}
mutual
theorem RW.mono (l : Le F r H F' r' H') : ∀ {w : W} {v : V}, RW G F r H w v → RW G F' r' H' w v
  | _, _, .non => .non
  | _, _, .bl b => .bl b
  | _, _, .int i => .int i
  | _, _, .str s => .str s
  | _, _, .tup h q => .tup (l.t _ _ h) (RWs.mono l q)
  | _, _, .lst f h q => .lst (l.f _ f) ((l.k _ f).trans h) (RWs.mono l q)
  | _, _, .ks h q => .ks (h.imp id (Or.imp (fun ⟨o, e⟩ => ⟨o, l.z _ _ _ e (.inr ⟨_, rfl⟩)⟩) fun ⟨f, e⟩ => ⟨l.f _ f, (l.k _ f).trans e⟩)) (RWs.mono l q)
  | _, _, .dicK f h e q => .dicK (l.f _ f) ((l.k _ f).trans h) e (RWs.mono l q)
  | _, _, .dicT f h e q => .dicT (l.f _ f) ((l.k _ f).trans h) e (RWs.mono l q)
  | _, _, .hp h => .hp (l.at h)
  | _, _, .fn h => .fn h
  | _, _, .opq q z => .opq (RW.mono l q) z
  | _, _, .clo h0 h1 h2 h3 h4 h5 h6 => .clo h0 (l.z _ _ _ h1 (.inl ⟨_, rfl⟩)) (l.x _ _ h2) h3 (fun k j x e1 e2 => (h4 k j x e1 e2).imp fun _ q => ⟨q.1, l.at q.2⟩) h5 h6
theorem RWs.mono (l : Le F r H F' r' H') : ∀ {w : List W} {v : List V}, RWs G F r H w v → RWs G F' r' H' w v
  | _, _, .nil => .nil
  | _, _, .cons a b => .cons (RW.mono l a) (RWs.mono l b)
end
mutual
theorem RO.mono (l : Le F r H F' r' H') : ∀ {o : O} {v : V} {L : List Addr}, RO G F r H o v L → (∀ b ∈ L, H' b = H b) → RO G F' r' H' o v L
  | _, _, _, .sh h, _ => .sh (h.mono l)
  | _, _, _, .lst h q, k => .lst ((k _ (List.mem_cons_self)).trans h) (ROs.mono l q fun b hb => k b (List.mem_cons_of_mem _ hb))
  | _, _, _, .tup h q, k => .tup (l.t _ _ h) (ROs.mono l q k)
  | _, _, _, .dicK h e q, k => .dicK ((k _ (List.mem_cons_self)).trans h) e (ROs.mono l q fun b hb => k b (List.mem_cons_of_mem _ hb))
  | _, _, _, .dicT h e q, k => .dicT ((k _ (List.mem_cons_self)).trans h) e (ROs.mono l q fun b hb => k b (List.mem_cons_of_mem _ hb))
theorem ROs.mono (l : Le F r H F' r' H') : ∀ {o : List O} {v : List V} {L : List Addr}, ROs G F r H o v L → (∀ b ∈ L, H' b = H b) → ROs G F' r' H' o v L
  | _, _, _, .nil, _ => .nil
  | _, _, _, .cons a b, k => .cons (RO.mono l a fun x hx => k x (List.mem_append_left _ hx)) (ROs.mono l b fun x hx => k x (List.mem_append_right _ hx))
end
theorem RS.mono (l : Le F r H F' r' H') : ∀ {s : SL} {st : L2.St} {L : List Addr}, RS G F r H s st L → (∀ b ∈ L, H' b = H b) → RS G F' r' H' s st L
  | _, _, _, .nil, _ => .nil
  | _, _, _, .nn h, k => .nn (RS.mono l h k)
  | _, _, _, .so a b, k => .so (a.mono l fun x hx => k x (List.mem_append_left _ hx)) (RS.mono l b fun x hx => k x (List.mem_append_right _ hx))
theorem RH.mono (l : Le F r H F' r' H') : ∀ {h : HH} {q L : List Addr}, RH G F r H h q L → (∀ b ∈ L, H' b = H b) → RH G F' r' H' h q L
  | _, _, _, .nil, _ => .nil
  | _, _, _, .lst h q b, k => .lst ((k _ (List.mem_cons_self)).trans h) (q.mono l) (RH.mono l b fun x hx => k x (List.mem_cons_of_mem _ hx))
  | _, _, _, .cel h e d q b, k => .cel ((k _ (List.mem_cons_self)).trans h) e d (q.mono l) (RH.mono l b fun x hx => k x (List.mem_cons_of_mem _ hx))
  | _, _, _, .cel0 b, k => .cel0 (RH.mono l b k)
/-! ### what is owned becomes shared -/
mutual
theorem RO.share (l : Le F r H F' r' H') : ∀ {o : O} {v : V} {L : List Addr}, RO G F r H o v L → (∀ b ∈ L, H' b = H b ∧ F' b) → RW G F' r' H' o.toW v
  | _, _, _, .sh h, _ => h.mono l
  | _, _, _, .lst h q, k => .lst (k _ List.mem_cons_self).2 ((k _ (List.mem_cons_self)).1.trans h) (ROs.share l q fun b hb => k b (List.mem_cons_of_mem _ hb))
  | _, _, _, .tup h q, k => .tup (l.t _ _ h) (ROs.share l q k)
  | _, _, _, .dicK h e q, k => .dicK (k _ List.mem_cons_self).2 ((k _ (List.mem_cons_self)).1.trans h) e (ROs.share l q fun b hb => k b (List.mem_cons_of_mem _ hb))
  | _, _, _, .dicT h e q, k => .dicT (k _ List.mem_cons_self).2 ((k _ (List.mem_cons_self)).1.trans h) e (ROs.share l q fun b hb => k b (List.mem_cons_of_mem _ hb))
theorem ROs.share (l : Le F r H F' r' H') : ∀ {o : List O} {v : List V} {L : List Addr}, ROs G F r H o v L → (∀ b ∈ L, H' b = H b ∧ F' b) → RWs G F' r' H' (O.toWs o) v
  | _, _, _, .nil, _ => .nil
  | _, _, _, .cons a b, k => .cons (RO.share l a fun x hx => k x (List.mem_append_left _ hx)) (ROs.share l b fun x hx => k x (List.mem_append_right _ hx))
end
theorem RWs.len : ∀ {xs : List W} {vs : List V}, RWs G F r H xs vs → xs.length = vs.length
  | _, _, .nil => rfl
  | _, _, .cons _ b => by simp [RWs.len b]
theorem ROs.len : ∀ {xs : List O} {vs : List V} {L : List Addr}, ROs G F r H xs vs L → xs.length = vs.length
  | _, _, _, .nil => rfl
  | _, _, _, .cons _ b => by simp [ROs.len b]
theorem RS.len : ∀ {s : SL} {st : L2.St} {L : List Addr}, RS G F r H s st L → s.length = st.length
  | _, _, _, .nil => rfl
  | _, _, _, .nn b => by simp [RS.len b]
  | _, _, _, .so _ b => by simp [RS.len b]
theorem RWs.get : ∀ {xs : List W} {vs : List V} {i : Nat} {x : W}, RWs G F r H xs vs → xs[i]? = some x → ∃ v, vs[i]? = some v ∧ RW G F r H x v
  | _, _, i, _, .nil, e => by simp at e
  | _, _, 0, _, .cons a _, e => by simp at e; subst e; exact ⟨_, rfl, a⟩
  | _, _, i + 1, x, .cons _ b, e => by
    obtain ⟨v, h1, h2⟩ := RWs.get (i := i) (x := x) b (by simpa using e)
    exact ⟨v, by simpa using h1, h2⟩
theorem RWs.append : ∀ {xs ys : List W} {vs us : List V}, RWs G F r H xs vs → RWs G F r H ys us → RWs G F r H (xs ++ ys) (vs ++ us)
  | _, _, _, _, .nil, b => b
  | _, _, _, _, .cons a c, b => .cons a (RWs.append c b)
theorem RWs.drop : ∀ {xs : List W} {vs : List V} (n : Nat), RWs G F r H xs vs → RWs G F r H (xs.drop n) (vs.drop n)
  | _, _, 0, h => h
  | _, _, _ + 1, .nil => .nil
  | _, _, n + 1, .cons _ b => RWs.drop n b
theorem RWs.take : ∀ {xs : List W} {vs : List V} (n : Nat), RWs G F r H xs vs → RWs G F r H (xs.take n) (vs.take n)
  | _, _, 0, _ => .nil
  | _, _, _ + 1, .nil => .nil
  | _, _, n + 1, .cons a b => .cons a (RWs.take n b)
theorem RWs.set {x : W} {v : V} (q : RW G F r H x v) : ∀ {xs : List W} {vs : List V} (n : Nat), RWs G F r H xs vs → RWs G F r H (xs.set n x) (vs.set n v)
  | _, _, _, .nil => .nil
  | _, _, 0, .cons _ b => .cons q b
  | _, _, n + 1, .cons a b => .cons a (RWs.set q n b)
theorem RWs.erase : ∀ {xs : List W} {vs : List V} (n : Nat), RWs G F r H xs vs → RWs G F r H (xs.eraseIdx n) (vs.eraseIdx n)
  | _, _, _, .nil => .nil
  | _, _, 0, .cons _ b => b
  | _, _, n + 1, .cons a b => .cons a (RWs.erase n b)
theorem RWs.reverse {xs : List W} {vs : List V} (h : RWs G F r H xs vs) : RWs G F r H xs.reverse vs.reverse := by
  induction h using RWs.rec (motive_1 := fun _ _ _ => True) with
  | nil => exact .nil
  | cons a b _ ih => simp only [List.reverse_cons]; exact ih.append (.cons a .nil)
  | _ => trivial
theorem ROs.append : ∀ {xs ys : List O} {vs us : List V} {L M : List Addr}, ROs G F r H xs vs L → ROs G F r H ys us M → ROs G F r H (xs ++ ys) (vs ++ us) (L ++ M)
  | _, _, _, _, _, _, .nil, b => b
  | _, _, _, _, _, _, .cons a c, b => by rw [List.append_assoc]; exact .cons a (ROs.append c b)
theorem ROs.shs : ∀ {xs : List W} {vs : List V}, RWs G F r H xs vs → ROs G F r H (xs.map .sh) vs []
  | _, _, .nil => .nil
  | _, _, .cons a b => ROs.cons (L := []) (.sh a) (ROs.shs b)
theorem ROs.ofShs : ∀ {os : List O} {ws : List W} {vs : List V} {L : List Addr}, ROs G F r H os vs L → shs? os = some ws → RWs G F r H ws vs ∧ L = []
  | _, _, _, _, .nil, e => by cases e; exact ⟨.nil, rfl⟩
  | _, _, _, _, .cons (x := x) a b, e => by
    cases a with
    | sh a =>
      unfold shs? at e
      split at e
      · rename_i ws' e'
        obtain ⟨h1, h2⟩ := ROs.ofShs b e'
        cases e
        exact ⟨.cons a h1, by simp [h2]⟩
      · cases e
    | lst h q => simp [shs?] at e
    | tup h q => simp [shs?] at e
    | dicK h e' q => simp [shs?] at e
    | dicT h e' q => simp [shs?] at e
end
end Mini
set_option Elab.async false
set_option linter.all false
set_option maxRecDepth 100000
set_option maxHeartbeats 1000000
/-! Mini: what holds of the abstract heap between two steps. -/
namespace Mini
open PySem L2
/-- R: what is owned by slots, by what is held, by callers -/
def Tr (G : GS) (H : Hp) (a : Addr) : Prop := H a ≠ none ∧ ∀ p ∈ G.tabs, p.1 ≠ a
structure WI (G : GI) (F : Fz) (r : List Addr) (H : Hp) (h : HH) (R : List Addr) : Prop where
  rh : ∃ L, RH G F r H h r L ∧ (L ++ R).Nodup ∧ ∀ a ∈ L ++ R, ¬ F a ∧ Tr G H a
  ff : ∀ a, F a → Tr G H a
  tabs : LamX.Tabs G.tabs H
  lk : ∀ p ∈ G.own, r[p.1]? = some p.2
theorem tabs_upd {T : List (Addr × Str)} {H : Hp} {p : Addr} {o : HO} (t : LamX.Tabs T H) (h1 : ∀ ps, H p ≠ some (.tbl ps)) (h2 : ∀ φ, H p ≠ some (.ext φ)) : LamX.Tabs T (upd H p o) := fun q hq => by
  obtain ⟨ps, a, b, c⟩ := t q hq
  refine ⟨ps, by rw [upd_ne fun e => h1 ps (by rw [← e]; exact a)]; exact a, b, fun pos cv e => ?_⟩
  obtain ⟨d, e1, e2⟩ := c pos cv e
  exact ⟨d, e1, by rw [upd_ne fun e => h2 _ (by rw [← e]; exact e2)]; exact e2⟩
section
variable {G : GI} {F F' : Fz} {r r' : List Addr} {H H' : Hp} {h : HH} {R R' L M : List Addr}
theorem WI.of (w : WI G F r H h R) (hs : ∀ a ∈ R', a ∈ R) (hn : R'.Nodup) : WI G F r H h R' := by
  obtain ⟨⟨L, h1, h2, h3⟩, ff, tb, ow⟩ := w
  refine ⟨⟨L, h1, ?_, fun a ha => h3 a ?_⟩, ff, tb, ow⟩
  · rw [List.nodup_append] at h2 ⊢
    exact ⟨h2.1, hn, fun a ha b hb => h2.2.2 a ha b (hs b hb)⟩
  · rcases List.mem_append.mp ha with z | z
    · exact List.mem_append_left _ z
    · exact List.mem_append_right _ (hs a z)
theorem WI.nodup (w : WI G F r H h R) : R.Nodup := by
  obtain ⟨⟨L, h1, h2, h3⟩, ff, tb, ow⟩ := w
  exact (List.nodup_append.mp h2).2.1
theorem WI.perm (w : WI G F r H h R) (p : R.Perm R') : WI G F r H h R' := w.of (fun a ha => p.mem_iff.mpr ha) (p.nodup w.nodup)
theorem WI.right (w : WI G F r H h (L ++ R)) : WI G F r H h R := w.of (fun a ha => List.mem_append_right _ ha) (List.nodup_append.mp w.nodup).2.1
theorem WI.nof (w : WI G F r H h R) {a : Addr} (ha : a ∈ R) : ¬ F a := by
  obtain ⟨⟨L, h1, h2, h3⟩, ff, tb, ow⟩ := w
  exact (h3 a (List.mem_append_right _ ha)).1
theorem WI.there (w : WI G F r H h R) {a : Addr} (ha : a ∈ R) : H a ≠ none := by
  obtain ⟨⟨L, h1, h2, h3⟩, ff, tb, ow⟩ := w
  exact (h3 a (List.mem_append_right _ ha)).2.1
theorem WI.ne (w : WI G F r H h R) {a p : Addr} (ha : a ∈ R) (hp : H p = none) : a ≠ p := fun e => w.there ha (e ▸ hp)
/-- a new object -/
theorem Le.new (w : WI G F r H h R) {p : Addr} (hp : H p = none) (o : HO) : Le F r H F r (upd H p o) :=
  ⟨fun _ h => h, fun a fa => upd_ne fun (e : a = p) => (w.ff a fa).1 (by rw [e]; exact hp), ⟨[], by simp⟩, fun a xs e => by rw [upd_ne (ne_of_none e hp)]; exact e, fun a o u e _ => by rw [upd_ne (ne_of_none e hp)]; exact e, fun a φ e => by rw [upd_ne (ne_of_none e hp)]; exact e⟩
theorem Tr.at_ {H' : Hp} {a : Addr} (t : Tr G H a) (e : H' a ≠ none) : Tr G H' a := ⟨e, t.2⟩
theorem Tr.fresh {H' : Hp} {a : Addr} {T : LamX.Tabs G.tabs H} (n : H a = none) (e : H' a ≠ none) : Tr G H' a := ⟨e, fun p hp ee => by
  obtain ⟨ps, q, _⟩ := T p hp
  rw [ee, n] at q
  cases q⟩
theorem WI.new (w : WI G F r H h R) {p : Addr} (hp : H p = none) (o : HO) : WI G F r (upd H p o) h (p :: R) := by
  have l := Le.new w hp o
  obtain ⟨⟨L, h1, h2, h3⟩, ff, tb, ow⟩ := w
  have np : ∀ a ∈ L ++ R, a ≠ p := fun a ha e => (h3 a ha).2.1 (by rw [e]; exact hp)
  refine ⟨⟨L, h1.mono l fun b hb => upd_ne (np b (List.mem_append_left _ hb)), ?_, fun a ha => ?_⟩, fun a fa => ?_, tabs_upd tb (fun ps e => by rw [hp] at e; cases e) (fun φ e => by rw [hp] at e; cases e), ow⟩
  · have : (L ++ p :: R).Perm (p :: (L ++ R)) := List.perm_middle
    exact (this.nodup_iff).mpr (List.nodup_cons.mpr ⟨fun z => np p z rfl, h2⟩)
  · by_cases e : a = p
    · subst e
      exact ⟨fun fa => (ff _ fa).1 hp, Tr.fresh (T := tb) hp (by rw [upd_same]; simp)⟩
    · have ha' : a ∈ L ++ R := by
        rcases List.mem_append.mp ha with z | z
        · exact List.mem_append_left _ z
        · rcases List.mem_cons.mp z with z | z
          · exact absurd z e
          · exact List.mem_append_right _ z
      exact ⟨(h3 a ha').1, (h3 a ha').2.at_ (by rw [upd_ne e]; exact (h3 a ha').2.1)⟩
  · refine (ff a fa).at_ ?_
    rw [upd_ne fun (e : a = p) => (ff a fa).1 (by rw [e]; exact hp)]
    exact (ff a fa).1
theorem WI.newT (w : WI G F r H h R) {p : Addr} (hp : H p = none) (o : HO) : WI G F r (upd H p o) h R := (w.new hp o).of (fun a ha => List.mem_cons_of_mem _ ha) w.nodup
/-- what was owned is shared -/
theorem Le.share : Le F r H (fun a => F a ∨ a ∈ M) r H := ⟨fun _ h => .inl h, fun _ _ => rfl, ⟨[], by simp⟩, fun _ _ h => h, fun _ _ _ h _ => h, fun _ _ h => h⟩
theorem WI.share (w : WI G F r H h (M ++ R)) : WI G (fun a => F a ∨ a ∈ M) r H h R := by
  obtain ⟨⟨L, h1, h2, h3⟩, ff, tb, ow⟩ := w
  have hn := List.nodup_append.mp h2
  have hn2 := List.nodup_append.mp hn.2.1
  refine ⟨⟨L, h1.mono Le.share fun _ _ => rfl, ?_, fun a ha => ⟨fun z => ?_, ?_⟩⟩, fun a fa => ?_, tb, ow⟩
  · exact List.nodup_append.mpr ⟨hn.1, hn2.2.1, fun a ha b hb => hn.2.2 a ha b (List.mem_append_right _ hb)⟩
  · rcases z with z | z
    · rcases List.mem_append.mp ha with q | q
      · exact (h3 a (List.mem_append_left _ q)).1 z
      · exact (h3 a (List.mem_append_right _ (List.mem_append_right _ q))).1 z
    · rcases List.mem_append.mp ha with q | q
      · exact hn.2.2 a q a (List.mem_append_left _ z) rfl
      · exact hn2.2.2 a z a q rfl
  · rcases List.mem_append.mp ha with q | q
    · exact (h3 a (List.mem_append_left _ q)).2
    · exact (h3 a (List.mem_append_right _ (List.mem_append_right _ q))).2
  · rcases fa with fa | fa
    · exact ff a fa
    · exact (h3 a (List.mem_append_right _ (List.mem_append_left _ fa))).2
/-- a thing that is owned is written -/
theorem Le.own (w : WI G F r H h R) {p : Addr} (hp : p ∈ R) (ht : ∀ xs, H p ≠ some (.tup xs)) (hz : ∀ o u φ ps, H p ≠ some (.frz o u) ∧ H p ≠ some (.ext φ) ∧ H p ≠ some (.tbl ps)) (o : HO) : Le F r H F r (upd H p o) :=
  ⟨fun _ h => h, fun a fa => upd_ne fun (e : a = p) => w.nof hp (by rw [← e]; exact fa), ⟨[], by simp⟩, fun a xs e => by
    by_cases q : a = p
    · subst q; exact absurd e (ht xs)
    · rw [upd_ne q]; exact e, fun a x u e _ => by
    by_cases q : a = p
    · subst q; exact absurd e (hz x u (fun _ => True) #[]).1
    · rw [upd_ne q]; exact e, fun a φ e => by
    by_cases q : a = p
    · subst q; exact absurd e (hz default (.lst []) φ #[]).2.1
    · rw [upd_ne q]; exact e⟩
theorem WI.own (w : WI G F r H h R) {p : Addr} (hp : p ∈ R) (ht : ∀ xs, H p ≠ some (.tup xs)) (hz : ∀ o u φ ps, H p ≠ some (.frz o u) ∧ H p ≠ some (.ext φ) ∧ H p ≠ some (.tbl ps)) (o : HO) : WI G F r (upd H p o) h R := by
  have l := Le.own w hp ht hz o
  obtain ⟨⟨L, h1, h2, h3⟩, ff, tb, ow⟩ := w
  refine ⟨⟨L, h1.mono l fun b hb => upd_ne fun e => (List.nodup_append.mp h2).2.2 b hb p hp e, h2, fun a ha => ⟨(h3 a ha).1, ?_⟩⟩, fun a fa => ?_, tabs_upd tb (fun ps => (hz default (.lst []) (fun _ => True) ps).2.2) (fun φ => (hz default (.lst []) φ #[]).2.1), ow⟩
  · refine (h3 a ha).2.at_ ?_
    by_cases e : a = p
    · subst e; rw [upd_same]; simp
    · rw [upd_ne e]; exact (h3 a ha).2.1
  · refine (ff a fa).at_ ?_
    by_cases e : a = p
    · subst e; rw [upd_same]; simp
    · rw [upd_ne e]; exact (ff a fa).1
/-! ### slots -/
theorem RS.app : ∀ {s t : SL} {σ τ : L2.St} {L M : List Addr}, RS G F r H s σ L → RS G F r H t τ M → RS G F r H (s ++ t) (σ ++ τ) (L ++ M)
  | _, _, _, _, _, _, .nil, b => b
  | _, _, _, _, _, _, .nn a, b => .nn (RS.app a b)
  | _, _, _, _, _, _, .so o a, b => by rw [List.append_assoc]; exact .so o (RS.app a b)
/-- a slot taken out -/
theorem RS.split : ∀ {s : SL} {σ : L2.St} {L : List Addr} (i : Nat), RS G F r H s σ L → i < s.length → ∃ A M B, L = A ++ (M ++ B) ∧ RS G F r H (s.take i) (σ.take i) A ∧ RS G F r H (s.drop (i + 1)) (σ.drop (i + 1)) B ∧
    ((s[i]? = some none ∧ M = []) ∨ ∃ o v, s[i]? = some (some o) ∧ σ[i]? = some (some v) ∧ RO G F r H o v M)
  | _, _, _, i, .nil, h => by simp at h
  | _, _, _, 0, .nn (s := s) (st := st) (L := L) a, _ => ⟨[], [], L, by simp, .nil, by simpa using a, .inl ⟨rfl, rfl⟩⟩
  | _, _, _, 0, .so (o := o) (v := v) (L := L) (M := M) q a, _ => ⟨[], L, M, by simp, .nil, by simpa using a, .inr ⟨o, v, rfl, rfl, q⟩⟩
  | _, _, _, i + 1, .nn (s := s) (st := st) a, h => by
    obtain ⟨A, M, B, e, h1, h2, h3⟩ := RS.split i a (by simpa using h)
    exact ⟨A, M, B, e, .nn h1, by simpa using h2, by simpa using h3⟩
  | _, _, _, i + 1, .so (o := o) (v := v) (L := L) q a, h => by
    obtain ⟨A, M, B, e, h1, h2, h3⟩ := RS.split i a (by simpa using h)
    exact ⟨L ++ A, M, B, by rw [e, List.append_assoc], .so q h1, by simpa using h2, by simpa using h3⟩
theorem set_split {α : Type} : ∀ {l : List α} {i : Nat} (x : α), i < l.length → l.set i x = l.take i ++ x :: l.drop (i + 1)
  | [], i, x, h => by simp at h
  | a :: l, 0, x, h => by simp
  | a :: l, i + 1, x, h => by simp [set_split (l := l) (i := i) x (by simpa using h)]
theorem RS.mk {s : SL} {σ : L2.St} {A M B : List Addr} {i : Nat} {o : O} {v : V} (hi : i < s.length) (hl : s.length = σ.length) (a : RS G F r H (s.take i) (σ.take i) A) (b : RS G F r H (s.drop (i + 1)) (σ.drop (i + 1)) B) (q : RO G F r H o v M) :
    RS G F r H (s.set i (Option.some o)) (σ.set i (Option.some v)) (A ++ (M ++ B)) := by
  rw [set_split _ hi, set_split _ (hl ▸ hi)]
  exact a.app (.so q b)
theorem RS.mkN {s : SL} {σ : L2.St} {A B : List Addr} {i : Nat} {x : Option V} (hi : i < s.length) (hl : s.length = σ.length) (a : RS G F r H (s.take i) (σ.take i) A) (b : RS G F r H (s.drop (i + 1)) (σ.drop (i + 1)) B) :
    RS G F r H (s.set i Option.none) (σ.set i x) (A ++ B) := by
  rw [set_split _ hi, set_split _ (hl ▸ hi)]
  exact a.app (.nn b)
theorem set_get {α : Type} {l : List α} {i : Nat} {x : α} (h : l[i]? = some x) : l.set i x = l := by
  obtain ⟨hi, e⟩ := List.getElem?_eq_some_iff.mp h
  subst e
  simp
theorem ksOf_len : ∀ {xs : List W} {ks : List Key}, ksOf xs = some ks → ks.length = xs.length
  | [], ks, e => by cases e; rfl
  | x :: xs, ks, e => by
    unfold ksOf at e
    split at e
    · rename_i e2
      cases e
      simp [ksOf_len e2]
    · cases e
/-- a slot looked into: the thing, its view -/
def RV (G : GI) (F : Fz) (r : List Addr) (H : Hp) (w : W) (v : V) : Prop := RW G F r H w v ∨ ∃ F', (∀ a, F a → F' a) ∧ RW G F' r H w v
end
end Mini
set_option Elab.async false
set_option linter.all false
set_option maxRecDepth 100000
set_option maxHeartbeats 1000000
/-! Mini: what comes out, and operators. -/
namespace Mini
open PySem L2
def Out {α : Type} (r : R α) (P : α → SL → HH → Prop) (E : Nat → List W → SL → HH → Prop) : Prop := match r with
  | .ok a s h => P a s h
  | .exc c ws s h => E c ws s h
  | .fail => False
section
variable {α β : Type} {r : R α} {k : α → SL → HH → R β} {P P' : α → SL → HH → Prop} {Q : β → SL → HH → Prop} {E E' : Nat → List W → SL → HH → Prop}
theorem Out.cases (h : Out (r.bind k) Q E) : Out r (fun a s h => Out (k a s h) Q E) E := by
  cases r <;> exact h
theorem Out.mono (h : Out r P E) (hp : ∀ a s h, P a s h → P' a s h) (he : ∀ c ws s h, E c ws s h → E' c ws s h) : Out r P' E' := by
  cases r with
  | ok a s h' => exact hp _ _ _ h
  | exc c ws s h' => exact he _ _ _ _ h
  | fail => exact h
theorem Out.ofO {o : Option α} {s : SL} {hh : HH} (h : Out (Mini.ofO o s hh) P E) : ∃ a, o = some a ∧ P a s hh := by
  cases o with
  | none => exact h.elim
  | some a => exact ⟨a, rfl, h⟩
end
abbrev WX := XK
/-- an error of the class c with what it was made of -/
def XR (G : GI) (F : Fz) (r : List Addr) (H : Hp) (c : Nat) (ws : List W) (cls : Value) (d : Option Addr) : Prop :=
  G.cok c ∧ cls = .ref (G.ca c) ∧ match ws with
  | [w] => ∃ dx f v, d = some dx ∧ G.cf c = some f ∧ H dx = some (.xd [(f, v)]) ∧ RW G F r H w v
  | _ => True
section
variable (G : GI) (Wx : WX) (F : Fz) (r : List Addr) (H : Hp) (R : List Addr) (σ : L2.St)
/-- behind a step: slots, what is kept -/
structure Bh (F' : Fz) (r' : List Addr) (H' : Hp) (L' : List Addr) (s' : SL) : Prop where
  le : Le F r H F' r' H'
  rs : RS G F' r' H' s' σ L'
  kp : ∀ b ∈ R, H' b = H b
def EK (c : Nat) (ws : List W) (s' : SL) (h' : HH) : Prop := ∀ F' r' H' L' cls d, Bh G F r H R σ F' r' H' L' s' → WI G F' r' H' h' (L' ++ R) → XR G F' r' H' c ws cls d → Wx cls d H'
def PO (Q : VK) (o : O) (s' : SL) (h' : HH) : Prop := ∀ F' r' H' L' v M, Bh G F r H R σ F' r' H' L' s' → RO G F' r' H' o v M → WI G F' r' H' h' (M ++ (L' ++ R)) → Q v H'
def POs (Q : List V → Hp → Prop) (os : List O) (s' : SL) (h' : HH) : Prop := ∀ F' r' H' L' vs M, Bh G F r H R σ F' r' H' L' s' → ROs G F' r' H' os vs M → WI G F' r' H' h' (M ++ (L' ++ R)) → Q vs H'
def RD (F : Fz) (r : List Addr) (H : Hp) (d : Dl) (v : V) : Prop := match d with
  | .now w => RW G F r H w v
  | .slot i => σ[i]? = some (some v)
def PD (Q : VK) (d : Dl) (s' : SL) (h' : HH) : Prop := ∀ F' r' H' L' v, Bh G F r H R σ F' r' H' L' s' → RD G σ F' r' H' d v → WI G F' r' H' h' (L' ++ R) → Q v H'
def PB (Q : Bool → Hp → Prop) (b : Bool) (s' : SL) (h' : HH) : Prop := ∀ F' r' H' L', Bh G F r H R σ F' r' H' L' s' → WI G F' r' H' h' (L' ++ R) → Q b H'
end
section
variable {G : GI} {Wx : WX} {F F1 : Fz} {r r1 : List Addr} {H H1 : Hp} {R L1 : List Addr} {σ : L2.St} {s1 : SL}
theorem Bh.trans {F' : Fz} {r' : List Addr} {H' : Hp} {L' : List Addr} {s' : SL} {R1 : List Addr} (a : Bh G F r H R σ F1 r1 H1 L1 s1) (b : Bh G F1 r1 H1 (R1 ++ R) σ F' r' H' L' s') : Bh G F r H R σ F' r' H' L' s' :=
  ⟨a.le.trans b.le, b.rs, fun x hx => (b.kp x (List.mem_append_right _ hx)).trans (a.kp x hx)⟩
theorem Bh.trans0 {F' : Fz} {r' : List Addr} {H' : Hp} {L' : List Addr} {s' : SL} (a : Bh G F r H R σ F1 r1 H1 L1 s1) (b : Bh G F1 r1 H1 R σ F' r' H' L' s') : Bh G F r H R σ F' r' H' L' s' :=
  ⟨a.le.trans b.le, b.rs, fun x hx => (b.kp x hx).trans (a.kp x hx)⟩
theorem EK.tr (a : Bh G F r H R σ F1 r1 H1 L1 s1) {R1 : List Addr} {c : Nat} {ws : List W} {s' : SL} {h' : HH} (h : EK G Wx F r H R σ c ws s' h') : EK G Wx F1 r1 H1 (R1 ++ R) σ c ws s' h' :=
  fun F' r' H' L' cls d b w x => h F' r' H' L' cls d (a.trans b) (w.of (fun z hz => by
    rcases List.mem_append.mp hz with q | q
    · exact List.mem_append_left _ q
    · exact List.mem_append_right _ (List.mem_append_right _ q)) (by
      have n := w.nodup
      rw [List.nodup_append] at n ⊢
      exact ⟨n.1, (List.nodup_append.mp n.2.1).2.1, fun a ha b hb => n.2.2 a ha b (List.mem_append_right _ hb)⟩)) x
theorem EK.tr0 (a : Bh G F r H R σ F1 r1 H1 L1 s1) {c : Nat} {ws : List W} {s' : SL} {h' : HH} (h : EK G Wx F r H R σ c ws s' h') : EK G Wx F1 r1 H1 R σ c ws s' h' := EK.tr (R1 := []) a h
theorem PO.tr0 (a : Bh G F r H R σ F1 r1 H1 L1 s1) {Q : VK} {o : O} {s' : SL} {h' : HH} (h : PO G F r H R σ Q o s' h') : PO G F1 r1 H1 R σ Q o s' h' :=
  fun F' r' H' L' v M b q w => h F' r' H' L' v M (a.trans0 b) q w
theorem POs.tr0 (a : Bh G F r H R σ F1 r1 H1 L1 s1) {Q : List V → Hp → Prop} {o : List O} {s' : SL} {h' : HH} (h : POs G F r H R σ Q o s' h') : POs G F1 r1 H1 R σ Q o s' h' :=
  fun F' r' H' L' v M b q w => h F' r' H' L' v M (a.trans0 b) q w
theorem PD.tr0 (a : Bh G F r H R σ F1 r1 H1 L1 s1) {Q : VK} {o : Dl} {s' : SL} {h' : HH} (h : PD G F r H R σ Q o s' h') : PD G F1 r1 H1 R σ Q o s' h' :=
  fun F' r' H' L' v b q w => h F' r' H' L' v (a.trans0 b) q w
theorem PB.tr0 (a : Bh G F r H R σ F1 r1 H1 L1 s1) {Q : Bool → Hp → Prop} {o : Bool} {s' : SL} {h' : HH} (h : PB G F r H R σ Q o s' h') : PB G F1 r1 H1 R σ Q o s' h' :=
  fun F' r' H' L' b w => h F' r' H' L' (a.trans0 b) w
end
/-! ### readings -/
section
variable (G : GI) (Wx : WX)
/-- where a step begins -/
structure At (F : Fz) (r : List Addr) (H : Hp) (R : List Addr) (σ : L2.St) (s : SL) (h : HH) (L : List Addr) : Prop where
  rs : RS G F r H s σ L
  wi : WI G F r H h (L ++ R)
def TM (f : SL → HH → R O) : TE := fun σ H Q => ∃ F r s h L R, At G F r H R σ s h L ∧ Out (f s h) (PO G F r H R σ Q) (EK G Wx F r H R σ)
def TMs (f : SL → HH → R (List O)) : TA := fun σ H Q => ∃ F r s h L R, At G F r H R σ s h L ∧ Out (f s h) (POs G F r H R σ Q) (EK G Wx F r H R σ)
def TMd (f : SL → HH → R Dl) : TE := fun σ H Q => ∃ F r s h L R, At G F r H R σ s h L ∧ Out (f s h) (PD G F r H R σ Q) (EK G Wx F r H R σ)
def TMt (f : SL → HH → R Bool) : TT := fun σ H Q => ∃ F r s h L R, At G F r H R σ s h L ∧ Out (f s h) (PB G F r H R σ Q) (EK G Wx F r H R σ)
end
section
variable {X : Cx}
theorem _root_.L2.PE.weak {e : Expr} {t t' : TE} (h : PE X e t) (w : ∀ σ H Q, t' σ H Q → t σ H Q) : PE X e t' := ⟨fun pins s σ H Q I q => h.run pins s σ H Q I (w σ H Q q)⟩
theorem _root_.L2.PT.weak {e : Expr} {t t' : TT} (h : PT X e t) (w : ∀ σ H Q, t' σ H Q → t σ H Q) : PT X e t' := ⟨fun pins s σ H Q I q => h.run pins s σ H Q I (w σ H Q q)⟩
theorem _root_.L2.PA.weak {e : List Expr} {t t' : TA} (h : PA X e t) (w : ∀ σ H Q, t' σ H Q → t σ H Q) : PA X e t' := ⟨fun pos pins s σ H Q I q => h.run pos pins s σ H Q I (w σ H Q q)⟩
end
/-! ### views -/
section
variable (G : GI) (F : Fz) (r : List Addr) (H : Hp)
inductive VW : W → V → Prop where
  | w {w : W} {v : V} : RW G F r H w v → VW w v
  | lst {a : Addr} {xs : List W} {vs : List V} : H a = some (.lst vs) → RWs G F r H xs vs → VW (.lst xs) (.ref a)
  | dicK {a : Addr} {ks xs : List W} {kvs : List (Key × V)} : H a = some (.dK kvs) → ks.map kOf = kvs.map (fun p => some p.1) → RWs G F r H xs (kvs.map (·.2)) → VW (.dic false ks xs) (.ref a)
  | dicT {a : Addr} {ks xs : List W} {kvs : List (List Key × V)} : H a = some (.dT kvs) → ks.map ktOf = kvs.map (fun p => some p.1) → RWs G F r H xs (kvs.map (·.2)) → VW (.dic true ks xs) (.ref a)
end
section
variable {G : GI} {F : Fz} {r : List Addr} {H : Hp} {σ : L2.St} {s : SL} {h : HH} {L R : List Addr}
theorem VW.list {xs : List W} {v : V} (h : VW G F r H (.lst xs) v) : ∃ a vs, v = .ref a ∧ H a = some (.lst vs) ∧ RWs G F r H xs vs := by
  cases h with
  | w h => cases h with
    | lst f e q => exact ⟨_, _, rfl, e, q⟩
  | lst e q => exact ⟨_, _, rfl, e, q⟩
theorem VW.tuple {xs : List W} {v : V} (h : VW G F r H (.tup xs) v) : ∃ a vs, v = .ref a ∧ H a = some (.tup vs) ∧ RWs G F r H xs vs := by
  cases h with
  | w h => cases h with
    | tup e q => exact ⟨_, _, rfl, e, q⟩
theorem VW.int {i : Int} {v : V} (h : VW G F r H (.int i) v) : v = .int i := by
  cases h with
  | w h => cases h; rfl
theorem VW.bl {i : Bool} {v : V} (h : VW G F r H (.bl i) v) : v = .bl i := by
  cases h with
  | w h => cases h; rfl
theorem VW.str {i : List Nat} {v : V} (h : VW G F r H (.str i) v) : v = .str ⟨i.toArray⟩ := by
  cases h with
  | w h => cases h; rfl
theorem VW.non {v : V} (h : VW G F r H .non v) : v = .non := by
  cases h with
  | w h => cases h; rfl
theorem RH.get : ∀ {h : HH} {q L : List Addr} {i : Nat} {xs : List W} {a : Addr}, RH G F r H h q L → h[i]? = some (.lst xs) → q[i]? = some a → ∃ vs, H a = some (.lst vs) ∧ RWs G F r H xs vs ∧ a ∈ L
  | _, _, _, i, _, _, .nil, e, _ => by simp at e
  | _, _, _, 0, xs, a, .lst e q b, e1, e2 => by
    simp at e1 e2
    subst e1 e2
    exact ⟨_, e, q, List.mem_cons_self⟩
  | _, _, _, i + 1, xs, a, .lst e q b, e1, e2 => by
    obtain ⟨vs, h1, h2, h3⟩ := RH.get (i := i) (xs := xs) (a := a) b (by simpa using e1) (by simpa using e2)
    exact ⟨vs, h1, h2, List.mem_cons_of_mem _ h3⟩
  | _, _, _, 0, xs, a, .cel _ _ _ _ _, e1, e2 => by simp at e1
  | _, _, _, 0, xs, a, .cel0 _, e1, e2 => by simp at e1
  | _, _, _, i + 1, xs, a, .cel _ _ _ _ b, e1, e2 => by
    obtain ⟨vs, h1, h2, h3⟩ := RH.get (i := i) (xs := xs) (a := a) b (by simpa using e1) (by simpa using e2)
    exact ⟨vs, h1, h2, List.mem_cons_of_mem _ h3⟩
  | _, _, _, i + 1, xs, a, .cel0 b, e1, e2 => by
    obtain ⟨vs, h1, h2, h3⟩ := RH.get (i := i) (xs := xs) (a := a) b (by simpa using e1) (by simpa using e2)
    exact ⟨vs, h1, h2, h3⟩
theorem RW.view (wi : WI G F r H h R) {w : W} {v : V} (q : RW G F r H w v) : VW G F r H (vw h w) v := by
  cases w with
  | hp i =>
    cases q with
    | hp e =>
      cases eh : h[i]? with
      | none => simp only [vw, eh]; exact .w (.hp e)
      | some o =>
        cases o with
        | lst xs =>
          obtain ⟨⟨L, h1, _⟩, _⟩ := wi
          obtain ⟨vs, e1, e2, _⟩ := h1.get eh e
          simp only [vw, eh]
          exact .lst e1 e2
        | cell w => simp only [vw, eh]; exact .w (.hp e)
        | lost => simp only [vw, eh]; exact .w (.hp e)
  | _ => exact .w q
theorem RD.view (a : At G F r H R σ s h L) {d : Dl} {v : V} {w : W} (q : RD G σ F r H d v) (e : d.get s h = some w) : VW G F r H w v := by
  cases d with
  | now w' =>
    cases e
    exact RW.view a.wi q
  | slot i =>
    have q : σ[i]? = some (some v) := q
    cases ep : pkS s i with
    | none => simp only [Dl.get, ep] at e; cases e
    | some w' =>
      simp only [Dl.get, ep] at e
      cases e
      have hi : i < s.length := by
        unfold pkS at ep
        split at ep
        all_goals first | exact (List.getElem?_eq_some_iff.mp (by assumption)).1 | cases ep
      obtain ⟨A, M, B, eL, _, _, c⟩ := a.rs.split i hi
      rcases c with ⟨e1, _⟩ | ⟨o, v', e1, e2, ro⟩
      · unfold pkS at ep
        rw [e1] at ep
        cases ep
      · rw [e2] at q
        cases q
        unfold pkS at ep
        rw [e1] at ep
        cases o with
        | sh w2 =>
          simp only [Option.some.injEq] at ep
          subst ep
          cases ro with
          | sh ro => exact RW.view a.wi ro
        | lst xs =>
          simp only at ep
          cases ex : shs? xs with
          | none => rw [ex] at ep; cases ep
          | some ws =>
            rw [ex] at ep
            cases ep
            cases ro with
            | lst h1 h2 => exact .lst h1 (h2.ofShs ex).1
        | tup xs => simp at ep
        | dic t ks vs =>
          simp only at ep
          cases ex : shs? vs with
          | none => rw [ex] at ep; cases ep
          | some ws =>
            rw [ex] at ep
            cases ep
            cases ro with
            | dicK h1 h2 h3 => exact .dicK h1 h2 (h3.ofShs ex).1
            | dicT h1 h2 h3 => exact .dicT h1 h2 (h3.ofShs ex).1
end
end Mini
set_option Elab.async false
set_option linter.all false
set_option maxRecDepth 100000
set_option maxHeartbeats 1000000
/-! Mini: operators. -/
namespace Mini
open PySem L2
theorem line_eq : line = sizeLine := by rw [sizeLine_eq]; rfl
section
variable (G : GI)
/-- behind an operation that writes nothing of old -/
def Fin (F : Fz) (r : List Addr) (H : Hp) (h : HH) (R : List Addr) (Q : VK) (o : O) : Prop :=
  ∀ H' w M, Le F r H F r H' → (∀ b, H b ≠ none → H' b = H b) → RO G F r H' o w M → WI G F r H' h (M ++ R) → Q w H'
def rBin (op : BOp) : R2 := fun v u H Q => ∃ F r h R x y o, WI G F r H h R ∧ VW G F r H x v ∧ VW G F r H y u ∧ binW op x y = some o ∧ Fin G F r H h R Q o
end
section
variable {G : GI} {F : Fz} {r : List Addr} {H : Hp} {h : HH} {R : List Addr} {Q : VK} {X : Cx}
theorem Fin.sh {w : W} {v : V} (k : Fin G F r H h R Q (.sh w)) (wi : WI G F r H h R) (q : RW G F r H w v) : Q v H := k H v [] (Le.refl _ _ _) (fun _ _ => rfl) (.sh q) wi
theorem Fin.lst {xs : List W} {vs : List V} {p : Addr} (k : Fin G F r H h R Q (.lst (xs.map .sh))) (wi : WI G F r H h R) (hp : H p = none) (q : RWs G F r H xs vs) : Q (.ref p) (upd H p (.lst vs)) :=
  k _ _ [p] (Le.new wi hp _) (fun b hb => upd_ne fun (e : b = p) => hb (by rw [e]; exact hp)) (.lst upd_same (ROs.shs (q.mono (Le.new wi hp _)))) (wi.new hp _)
theorem Fin.tup {xs : List W} {vs : List V} {p : Addr} (k : Fin G F r H h R Q (.sh (.tup xs))) (wi : WI G F r H h R) (hp : H p = none) (q : RWs G F r H xs vs) : Q (.ref p) (upd H p (.tup vs)) :=
  k _ _ [] (Le.new wi hp _) (fun b hb => upd_ne fun (e : b = p) => hb (by rw [e]; exact hp)) (.sh (.tup upd_same (q.mono (Le.new wi hp _)))) (wi.newT hp _)
theorem app_nil_right {α : Type} {xs : List α} : xs ++ [] = xs := by simp
theorem strApp (x y : List Nat) : (⟨x.toArray⟩ : Str) ++ (⟨y.toArray⟩ : Str) = ⟨(x ++ y).toArray⟩ := by
  show (⟨x.toArray ++ y.toArray⟩ : Str) = _
  simp
theorem strLen (x : List Nat) : (⟨x.toArray⟩ : Str).length = x.length := by
  show x.toArray.size = _
  simp
theorem big64_ok {i : Int} (e : big64 i = true) : -(2 ^ 64) < i ∧ i < 2 ^ 64 := by
  unfold big64 at e
  simp only [Bool.and_eq_true, decide_eq_true_eq] at e
  exact ⟨by omega, by omega⟩
theorem op_bin_add : OpR X (binaryOp .Add) (rBin G .add) := by
  rintro pins s σ H x y v u Q I rx ry ⟨F, r, h, R, a, b, o, wi, va, vb, e, k⟩
  simp only [binW] at e
  unfold addW at e
  split at e
  · rename_i i j
    cases e
    refine op_add pins s σ H x y v u Q I rx ry ⟨_, _, va.int, vb.int, k.sh wi (.int _)⟩
  · rename_i i j
    split at e
    · rename_i hl
      cases e
      refine op_add_str pins s σ H x y v u Q I rx ry ⟨_, _, va.str, vb.str, ?_, ?_⟩
      · rw [strLen, strLen, ← line_eq]; exact hl
      · rw [strApp]; exact k.sh wi (.str _)
    · cases e
  · rename_i xs ys
    split at e
    · rename_i hl
      cases e
      obtain ⟨p, vs, e1, h1, q1⟩ := va.tuple
      obtain ⟨p2, vs2, e2, h2, q2⟩ := vb.tuple
      refine op_catA pins s σ H x y v u Q I rx ry ⟨p, p2, vs, vs2, e1, e2, .of h1, .of h2, ?_, fun z => ?_, fun _ z => ?_, fun _ _ p3 hp => ?_⟩
      · rw [← q1.len, ← q2.len, ← line_eq]; exact hl
      · subst z
        have z : xs = [] := List.eq_nil_of_length_eq_zero (by rw [q1.len]; rfl)
        subst z
        exact k.sh wi (.tup h2 q2)
      · subst z
        have z : ys = [] := List.eq_nil_of_length_eq_zero (by rw [q2.len]; rfl)
        subst z
        rw [List.append_nil] at k
        exact k.sh wi (.tup h1 q1)
      · exact k.tup wi hp (q1.append q2)
    · cases e
  · rename_i xs ys
    split at e
    · rename_i hl
      cases e
      obtain ⟨p, vs, e1, h1, q1⟩ := va.list
      obtain ⟨p2, vs2, e2, h2, q2⟩ := vb.list
      refine op_cat pins s σ H x y v u Q I rx ry ⟨p, p2, vs, vs2, e1, e2, h1, h2, ?_, fun p3 hp => ?_⟩
      · rw [← q1.len, ← q2.len, ← line_eq]; exact hl
      · exact k.lst wi hp (q1.append q2)
    · cases e
  · cases e
theorem op_bin_sub : OpR X (binaryOp .Sub) (rBin G .sub) := by
  rintro pins s σ H x y v u Q I rx ry ⟨F, r, h, R, a, b, o, wi, va, vb, e, k⟩
  simp only [binW] at e
  unfold subW at e
  split at e
  · rename_i i j
    cases e
    exact op_sub pins s σ H x y v u Q I rx ry ⟨_, _, va.int, vb.int, k.sh wi (.int _)⟩
  · cases e
theorem RWs.rep {xs : List W} {vs : List V} (q : RWs G F r H xs vs) : ∀ n : Nat, RWs G F r H (List.replicate n xs).flatten (List.replicate n vs).flatten
  | 0 => .nil
  | n + 1 => by rw [List.replicate_succ, List.replicate_succ, List.flatten_cons, List.flatten_cons]; exact q.append (RWs.rep q n)
theorem op_bin_mul : OpR X (binaryOp .Mult) (rBin G .mul) := by
  rintro pins s σ H x y v u Q I rx ry ⟨F, r, h, R, a, b, o, wi, va, vb, e, k⟩
  simp only [binW] at e
  unfold mulW at e
  split at e
  · rename_i i j
    split at e
    · rename_i hb
      cases e
      refine op_mul pins s σ H x y v u Q I rx ry ⟨_, _, va.int, vb.int, ?_, k.sh wi (.int _)⟩
      rcases Bool.or_eq_true_iff.mp hb with z | z
      · exact .inl (big64_ok z)
      · exact .inr (big64_ok z)
    · cases e
  · rename_i xs n
    split at e
    · rename_i hb
      cases e
      simp only [Bool.and_eq_true, decide_eq_true_eq] at hb
      obtain ⟨p, vs, e1, h1, q1⟩ := va.list
      refine op_rep pins s σ H x y v u Q I rx ry ⟨p, n, vs, e1, vb.int, h1, by omega, by omega, ?_, fun p3 hp => ?_⟩
      · rw [← q1.len, ← line_eq]; exact hb.2
      · exact k.lst wi hp (q1.rep _)
    · cases e
  · cases e
theorem op_bin_fdiv : OpR X (binaryOp .FloorDiv) (rBin G .fdiv) := by
  rintro pins s σ H x y v u Q I rx ry ⟨F, r, h, R, a, b, o, wi, va, vb, e, k⟩
  simp only [binW] at e
  unfold fdivW at e
  split at e
  · rename_i i j
    split at e
    · rename_i hb
      cases e
      simp only [Bool.and_eq_true, decide_eq_true_eq] at hb
      exact op_fdiv pins s σ H x y v u Q I rx ry ⟨_, _, va.int, vb.int, hb, k.sh wi (.int _)⟩
    · cases e
  · cases e
theorem op_bin_mod : OpR X (binaryOp .Mod) (rBin G .mod) := by
  rintro pins s σ H x y v u Q I rx ry ⟨F, r, h, R, a, b, o, wi, va, vb, e, k⟩
  simp only [binW] at e
  unfold modW at e
  split at e
  · rename_i i j
    split at e
    · rename_i hb
      cases e
      simp only [decide_eq_true_eq] at hb
      exact op_mod pins s σ H x y v u Q I rx ry ⟨_, _, va.int, vb.int, hb, k.sh wi (.int _)⟩
    · cases e
  · cases e
theorem op_bin_pow : OpR X (binaryOp .Pow) (rBin G .pow) := by
  rintro pins s σ H x y v u Q I rx ry ⟨F, r, h, R, a, b, o, wi, va, vb, e, k⟩
  simp only [binW] at e
  unfold powW at e
  split at e
  · rename_i i j
    split at e
    · rename_i hb
      cases e
      simp only [Bool.and_eq_true, decide_eq_true_eq] at hb
      have z := big64_ok hb.2
      exact op_pow pins s σ H x y v u Q I rx ry ⟨_, _, va.int, vb.int, ⟨hb.1.1, hb.1.2, by omega⟩, k.sh wi (.int _)⟩
    · cases e
  · cases e
end
end Mini
set_option Elab.async false
set_option linter.all false
set_option maxRecDepth 100000
set_option maxHeartbeats 1000000
/-! Mini: comparisons, places, keys. -/
namespace Mini
open PySem L2
mutual
def toPD : W → PyData
  | .bl b => .bool b
  | .int i => .int i
  | .str s => .str ⟨s.toArray⟩
  | .lst xs => .list (toPDs xs)
  | .tup xs => .tuple (toPDs xs)
  | _ => .none
def toPDs : List W → List PyData
  | [] => []
  | x :: xs => toPD x :: toPDs xs
end
theorem strEq (x y : List Nat) : ((⟨x.toArray⟩ : Str) == ⟨y.toArray⟩) = decide (x = y) := by
  by_cases e : x = y
  · subst e; simp
  · have : ¬ ((⟨x.toArray⟩ : Str) = ⟨y.toArray⟩) := fun z => e (by
      have z := congrArg (fun s : Str => s.cps.toList) z
      simpa using z)
    rw [beq_eq_false_iff_ne.mpr this, decide_eq_false e]
mutual
theorem eqW_pd : ∀ (n m : Nat) (x y : W), flatD n x = true → flatD m y = true → eqW x y = PyData.eqv (toPD x) (toPD y)
  | _, _, .non, .non, _, _ => rfl
  | _, _, .non, .bl _, _, _ => rfl
  | _, _, .non, .int _, _, _ => rfl
  | _, _, .non, .str _, _, _ => rfl
  | _, _, .non, .lst _, _, _ => rfl
  | _, _, .non, .tup _, _, _ => rfl
  | _, _, .bl _, .non, _, _ => rfl
  | _, _, .bl _, .bl _, _, _ => rfl
  | _, _, .bl a, .int j, _, _ => by
    show decide ((if a then 1 else 0) = j) = ((if a then (1 : Int) else 0) == j)
    exact (Bool.beq_eq_decide_eq _ _).symm
  | _, _, .bl _, .str _, _, _ => rfl
  | _, _, .bl _, .lst _, _, _ => rfl
  | _, _, .bl _, .tup _, _, _ => rfl
  | _, _, .int _, .non, _, _ => rfl
  | _, _, .int i, .bl b, _, _ => (Bool.beq_eq_decide_eq i _).symm
  | _, _, .int i, .int j, _, _ => (Bool.beq_eq_decide_eq i j).symm
  | _, _, .int _, .str _, _, _ => rfl
  | _, _, .int _, .lst _, _, _ => rfl
  | _, _, .int _, .tup _, _, _ => rfl
  | _, _, .str _, .non, _, _ => rfl
  | _, _, .str _, .bl _, _, _ => rfl
  | _, _, .str _, .int _, _, _ => rfl
  | _, _, .str x, .str y, _, _ => (strEq x y).symm
  | _, _, .str _, .lst _, _, _ => rfl
  | _, _, .str _, .tup _, _, _ => rfl
  | _, _, .lst _, .non, _, _ => rfl
  | _, _, .lst _, .bl _, _, _ => rfl
  | _, _, .lst _, .int _, _, _ => rfl
  | _, _, .lst _, .str _, _, _ => rfl
  | n + 1, m + 1, .lst xs, .lst ys, h1, h2 => eqWs_pd n m xs ys h1 h2
  | 0, _, .lst xs, .lst ys, h1, h2 => by cases h1
  | _, 0, .lst xs, .lst ys, h1, h2 => by cases h2
  | _, _, .lst _, .tup _, _, _ => rfl
  | _, _, .tup _, .non, _, _ => rfl
  | _, _, .tup _, .bl _, _, _ => rfl
  | _, _, .tup _, .int _, _, _ => rfl
  | _, _, .tup _, .str _, _, _ => rfl
  | _, _, .tup _, .lst _, _, _ => rfl
  | n + 1, m + 1, .tup xs, .tup ys, h1, h2 => eqWs_pd n m xs ys h1 h2
  | 0, _, .tup xs, .tup ys, h1, h2 => by cases h1
  | _, 0, .tup xs, .tup ys, h1, h2 => by cases h2
  | 0, _, .dic _ _ _, _, h1, _ => by cases h1
  | n + 1, _, .dic _ _ _, _, h1, _ => by cases h1
  | 0, _, .hp _, _, h1, _ => by cases h1
  | n + 1, _, .hp _, _, h1, _ => by cases h1
  | 0, _, .fn _, _, h1, _ => by cases h1
  | n + 1, _, .fn _, _, h1, _ => by cases h1
  | 0, _, .clo _ _, _, h1, _ => by cases h1
  | n + 1, _, .clo _ _, _, h1, _ => by cases h1
  | 0, _, .ks _, _, h1, _ => by cases h1
  | n + 1, _, .ks _, _, h1, _ => by cases h1
  | _, 0, _, .dic _ _ _, _, h1 => by cases h1
  | _, n + 1, _, .dic _ _ _, _, h1 => by cases h1
  | _, 0, _, .hp _, _, h1 => by cases h1
  | _, n + 1, _, .hp _, _, h1 => by cases h1
  | _, 0, _, .fn _, _, h1 => by cases h1
  | _, n + 1, _, .fn _, _, h1 => by cases h1
  | _, 0, _, .clo _ _, _, h1 => by cases h1
  | _, n + 1, _, .clo _ _, _, h1 => by cases h1
  | _, 0, _, .ks _, _, h1 => by cases h1
  | _, n + 1, _, .ks _, _, h1 => by cases h1
theorem eqWs_pd : ∀ (n m : Nat) (x y : List W), flatDs n x = true → flatDs m y = true → eqWs x y = PyData.eqvAll (toPDs x) (toPDs y)
  | _, _, [], [], _, _ => rfl
  | _, _, [], _ :: _, _, _ => rfl
  | _, _, _ :: _, [], _, _ => rfl
  | n, m, x :: xs, y :: ys, h1, h2 => by
    have a : flatD n x = true ∧ flatDs n xs = true := by
      unfold flatDs at h1
      split at h1
      · exact ⟨by assumption, h1⟩
      · cases h1
    have b : flatD m y = true ∧ flatDs m ys = true := by
      unfold flatDs at h2
      split at h2
      · exact ⟨by assumption, h2⟩
      · cases h2
    show (if eqW x y then eqWs xs ys else false) = (PyData.eqv (toPD x) (toPD y) && PyData.eqvAll (toPDs xs) (toPDs ys))
    rw [eqW_pd n m x y a.1 b.1, eqWs_pd n m xs ys a.2 b.2]
    cases PyData.eqv (toPD x) (toPD y) <;> rfl
end
section
variable {G : GI} {F : Fz} {r : List Addr} {H : Hp} {h : HH} {R : List Addr} {Q : VK} {X : Cx}
mutual
theorem RW.dp : ∀ {w : W} {v : V} (n : Nat), RW G F r H w v → flatD n w = true → Dp G.K H v (toPD w)
  | _, _, _, .non, _ => .non
  | _, _, _, .bl b, _ => .bl b
  | _, _, _, .int i, _ => .int i
  | _, _, _, .str s, _ => .str _
  | _, _, n + 1, .tup e q, f => .tup (.of e) (RWs.dp n q f)
  | _, _, 0, .tup e q, f => by cases f
  | _, _, n + 1, .lst _ e q, f => .lst (.of e) (RWs.dp n q f)
  | _, _, 0, .lst _ e q, f => by cases f
  | _, _, 0, .ks _ _, f => by cases f
  | _, _, n + 1, .ks _ _, f => by cases f
  | _, _, 0, .dicK _ _ _ _, f => by cases f
  | _, _, n + 1, .dicK _ _ _ _, f => by cases f
  | _, _, 0, .dicT _ _ _ _, f => by cases f
  | _, _, n + 1, .dicT _ _ _ _, f => by cases f
  | _, _, 0, .hp _, f => by cases f
  | _, _, n + 1, .hp _, f => by cases f
  | _, _, 0, .fn _, f => by cases f
  | _, _, n + 1, .fn _, f => by cases f
  | _, _, 0, .clo _ _ _ _ _ _ _, f => by cases f
  | _, _, n + 1, .clo _ _ _ _ _ _ _, f => by cases f
theorem RWs.dp : ∀ {w : List W} {v : List V} (n : Nat), RWs G F r H w v → flatDs n w = true → DpAll G.K H v (toPDs w)
  | _, _, _, .nil, _ => .nil
  | _, _, n, .cons a b, f => by
    have f2 := f
    unfold flatDs at f2
    split at f2
    · exact .cons (RW.dp n a (by assumption)) (RWs.dp n b f2)
    · cases f2
end
theorem VW.dp {w : W} {v : V} {n : Nat} (q : VW G F r H w v) (f : flatD n w = true) : Dp G.K H v (toPD w) := by
  cases q with
  | w q => exact q.dp n f
  | lst e q =>
    cases n with
    | zero => cases f
    | succ n => exact .lst (.of e) (q.dp n f)
  | dicK e1 e2 q => cases n <;> cases f
  | dicT e1 e2 q => cases n <;> cases f
theorem strOk_of {s : List Nat} (f : (s.all fun c => decide (c < 1114112)) = true) : PyData.canLay0 (.str ⟨s.toArray⟩) = true := by
  show (s.toArray.all fun c => decide (c < 1114112)) = true
  rw [List.all_toArray]
  exact f
mutual
theorem canLay_pd : ∀ (n : Nat) (w : W), flatD n w = true → PyData.canLay0 (toPD w) = true ∧ PyData.depth (toPD w) ≤ n
  | _, .non, _ => ⟨rfl, Nat.zero_le _⟩
  | _, .bl _, _ => ⟨rfl, Nat.zero_le _⟩
  | _, .int _, _ => ⟨rfl, Nat.zero_le _⟩
  | 0, .str s, f => ⟨strOk_of f, Nat.zero_le _⟩
  | n + 1, .str s, f => ⟨strOk_of f, Nat.zero_le _⟩
  | n + 1, .lst xs, f => let z := canLay_pds n xs f; ⟨z.1, Nat.succ_le_succ z.2⟩
  | n + 1, .tup xs, f => let z := canLay_pds n xs f; ⟨z.1, Nat.succ_le_succ z.2⟩
  | 0, .lst _, f => by cases f
  | 0, .tup _, f => by cases f
  | 0, .dic _ _ _, f => by cases f
  | n + 1, .dic _ _ _, f => by cases f
  | 0, .hp _, f => by cases f
  | n + 1, .hp _, f => by cases f
  | 0, .fn _, f => by cases f
  | n + 1, .fn _, f => by cases f
  | 0, .clo _ _, f => by cases f
  | n + 1, .clo _ _, f => by cases f
  | 0, .ks _, f => by cases f
  | n + 1, .ks _, f => by cases f
theorem canLay_pds : ∀ (n : Nat) (w : List W), flatDs n w = true → PyData.canLayAll0 (toPDs w) = true ∧ PyData.depthAll (toPDs w) ≤ n
  | _, [], _ => ⟨rfl, Nat.zero_le _⟩
  | n, x :: xs, f => by
    have f2 := f
    unfold flatDs at f2
    split at f2
    · rename_i f1
      have a := canLay_pd n x f1
      have b := canLay_pds n xs f2
      refine ⟨?_, Nat.max_le.mpr ⟨a.2, b.2⟩⟩
      show (PyData.canLay0 (toPD x) && PyData.canLayAll0 (toPDs xs)) = true
      rw [a.1, b.1]
      rfl
    · cases f2
end
theorem shaped_pd {n : Nat} {w : W} (f : flatD n w = true) (hn : n ≤ 64) : SeqAt.shaped (toPD w) = true := by
  have z := canLay_pd n w f
  show (PyData.canLay0 (toPD w) && decide ((toPD w).depth ≤ 64)) = true
  rw [z.1, decide_eq_true (Nat.le_trans z.2 hn)]
  rfl
variable (G) in
def rCmp (c : W → W → Option Bool) : R2 := fun v u H Q => ∃ F r h R x y b, WI G F r H h R ∧ VW G F r H x v ∧ VW G F r H y u ∧ c x y = some b ∧ Q (.bl b) H
theorem op_cmp_eq (hK : X.K = G.K) (hu : X.A.units + 64 < cLine) : OpR X (compareOp .Eq) (rCmp G eqC) := by
  rintro pins s σ H x y v u Q I rx ry ⟨F, r, h, R, a, b, o, wi, va, vb, e, k⟩
  unfold eqC at e
  split at e
  · rename_i hb
    cases e
    rw [Bool.and_eq_true] at hb
    refine op_eqD hu pins s σ H x y v u Q I rx ry ⟨toPD a, toPD b, hK ▸ va.dp hb.1, hK ▸ vb.dp hb.2, shaped_pd hb.1 (by decide), shaped_pd hb.2 (by decide), ?_⟩
    rw [← eqW_pd 60 60 a b hb.1 hb.2]
    exact k
  · cases e
theorem op_cmp_ne (hK : X.K = G.K) (hu : X.A.units + 64 < cLine) : OpR X (compareOp .NotEq) (rCmp G neC) := by
  rintro pins s σ H x y v u Q I rx ry ⟨F, r, h, R, a, b, o, wi, va, vb, e, k⟩
  unfold neC at e
  split at e
  · rename_i hb
    cases e
    rw [Bool.and_eq_true] at hb
    refine op_neD hu pins s σ H x y v u Q I rx ry ⟨toPD a, toPD b, hK ▸ va.dp hb.1, hK ▸ vb.dp hb.2, shaped_pd hb.1 (by decide), shaped_pd hb.2 (by decide), ?_⟩
    rw [← eqW_pd 60 60 a b hb.1 hb.2]
    exact k
  · cases e
theorem lexLt_eq : ∀ xs ys : List Int, lexLt xs ys = HT.lexLt xs ys
  | [], [] => rfl
  | [], _ :: _ => rfl
  | _ :: _, [] => rfl
  | x :: xs, y :: ys => by
    rw [HT.lexLt_cons]
    show (if x = y then lexLt xs ys else decide (x < y)) = _
    rw [lexLt_eq xs ys]
theorem RWs.ints : ∀ {xs : List W} {vs : List V} {ns : List Int}, RWs G F r H xs vs → ints? xs = some ns → vs = ns.map V.int
  | _, _, ns, .nil, e => by cases e; rfl
  | _, _, ns, .cons (x := x) a b, e => by
    cases a with
    | int i =>
      unfold ints? at e
      split at e
      · rename_i l el
        cases e
        rw [RWs.ints b el]
        rfl
      · cases e
    | _ => simp [ints?] at e
theorem RWs.bls : ∀ {xs : List W} {vs : List V} {ns : List Bool}, RWs G F r H xs vs → bls? xs = some ns → vs = ns.map V.bl
  | _, _, ns, .nil, e => by cases e; rfl
  | _, _, ns, .cons (x := x) a b, e => by
    cases a with
    | bl i =>
      unfold bls? at e
      split at e
      · rename_i l el
        cases e
        rw [RWs.bls b el]
        rfl
      · cases e
    | _ => simp [bls?] at e
theorem op_cmp_lt (hK : X.K = G.K) (hu : X.A.units < cLine) : OpR X (compareOp .Lt) (rCmp G ltW) := by
  rintro pins s σ H x y v u Q I rx ry ⟨F, r, h, R, a, b, o, wi, va, vb, e, k⟩
  unfold ltW at e
  split at e
  · cases e
    exact op_lt pins s σ H x y v u Q I rx ry ⟨_, _, va.int, vb.int, k⟩
  · rename_i xs ys
    split at e
    · rename_i n m en em
      cases e
      obtain ⟨p, vs, e1, h1, q1⟩ := va.tuple
      obtain ⟨p2, vs2, e2, h2, q2⟩ := vb.tuple
      refine op_ltT hu pins s σ H x y v u Q I rx ry ⟨p, p2, n, m, e1, e2, .of (q1.ints en ▸ h1), .of (q2.ints em ▸ h2), ?_⟩
      rw [← lexLt_eq]
      exact k
    · cases e
  · cases e
theorem op_cmp_gt : OpR X (compareOp .Gt) (rCmp G gtC) := by
  rintro pins s σ H x y v u Q I rx ry ⟨F, r, h, R, a, b, o, wi, va, vb, e, k⟩
  unfold gtC at e
  split at e
  · cases e
    exact op_gt pins s σ H x y v u Q I rx ry ⟨_, _, va.int, vb.int, k⟩
  · cases e
theorem op_cmp_le : OpR X (compareOp .LtE) (rCmp G leC) := by
  rintro pins s σ H x y v u Q I rx ry ⟨F, r, h, R, a, b, o, wi, va, vb, e, k⟩
  unfold leC at e
  split at e
  · cases e
    exact op_le pins s σ H x y v u Q I rx ry ⟨_, _, va.int, vb.int, k⟩
  · cases e
theorem op_cmp_ge : OpR X (compareOp .GtE) (rCmp G geC) := by
  rintro pins s σ H x y v u Q I rx ry ⟨F, r, h, R, a, b, o, wi, va, vb, e, k⟩
  unfold geC at e
  split at e
  · cases e
    exact op_ge pins s σ H x y v u Q I rx ry ⟨_, _, va.int, vb.int, k⟩
  · cases e
/-! ### in -/
theorem inW_pd (n m : Nat) (x : W) (f : flatD m x = true) : ∀ ys : List W, flatDs n ys = true → inW x ys = (toPDs ys).any fun z => PyData.eqv z (toPD x)
  | [], _ => rfl
  | y :: ys, g => by
    have g2 := g
    unfold flatDs at g2
    split at g2
    · rename_i g1
      show (if eqW y x then true else inW x ys) = (PyData.eqv (toPD y) (toPD x) || (toPDs ys).any fun z => PyData.eqv z (toPD x))
      rw [eqW_pd n m y x g1 f, inW_pd n m x f ys g2]
      cases PyData.eqv (toPD y) (toPD x) <;> rfl
    · cases g2
theorem RW.flat1 {w : W} {v : V} (q : RW G F r H w v) (f : Mini.flat1 w = true) : flatV v = true := by
  cases q <;> first | rfl | (cases f; done)
theorem VW.flat1 {w : W} {v : V} (q : VW G F r H w v) (f : Mini.flat1 w = true) : flatV v = true := by
  cases q with
  | w q => exact q.flat1 f
  | _ => cases f
theorem RWs.flat1 : ∀ {w : List W} {v : List V}, RWs G F r H w v → w.all Mini.flat1 = true → v.all flatV = true
  | _, _, .nil, _ => rfl
  | _, _, .cons a b, f => by
    rw [List.all_cons, Bool.and_eq_true] at f ⊢
    exact ⟨a.flat1 f.1, RWs.flat1 b f.2⟩
theorem eqW_flat {x y : W} {v u : V} (q : RW G F r H x v) (p : VW G F r H y u) (f : Mini.flat1 x = true) (g : Mini.flat1 y = true) : eqV v u = eqW x y := by
  cases p with
  | w p =>
    cases q <;> first
      | (cases f; done)
      | (cases p <;> first
        | (cases g; done)
        | rfl
        | exact (Bool.beq_eq_decide_eq _ _)
        | exact strEq _ _)
  | _ => cases g
theorem inW_flat {x : W} {v : V} (p : VW G F r H x v) (f : Mini.flat1 x = true) : ∀ {ys : List W} {us : List V}, RWs G F r H ys us → ys.all Mini.flat1 = true → inV v us = inW x ys
  | _, _, .nil, _ => rfl
  | _, _, .cons (x := y) (v := u) (xs := ys) (vs := us) a b, g => by
    rw [List.all_cons, Bool.and_eq_true] at g
    have ih := inW_flat p f b g.2
    show (eqV u v || inV v us) = (if eqW y x then true else inW x ys)
    rw [eqW_flat a p g.1 f, ih]
    cases eqW y x <;> rfl
end
end Mini
set_option Elab.async false
set_option linter.all false
set_option maxRecDepth 100000
set_option maxHeartbeats 1000000
/-! Mini: in, places, slices, truth, functions of values. -/
namespace Mini
open PySem L2
/-! ### keys -/
theorem ksOf_nil : ksOf [] = some [] := rfl
mutual
theorem sameK_kOf : ∀ (x k : W), keyA x = true → keyA k = true → sameK x k = decide (kOf x = kOf k)
  | .int i, .int j, _, _ => by
    show decide (i = j) = decide (some (Sum.inl i : Key) = some (Sum.inl j))
    by_cases e : i = j
    · subst e; simp
    · rw [decide_eq_false e, decide_eq_false (by simpa using e)]
  | .str x, .str y, _, _ => by
    show decide (x = y) = decide (some (Sum.inr ⟨x.toArray⟩ : Key) = some (Sum.inr ⟨y.toArray⟩))
    by_cases e : x = y
    · subst e; simp
    · rw [decide_eq_false e, decide_eq_false (by simpa using e)]
  | .int i, .str y, _, _ => by
    show false = decide (some (Sum.inl i : Key) = some (Sum.inr ⟨y.toArray⟩))
    rw [decide_eq_false (by simp)]
  | .str x, .int j, _, _ => by
    show false = decide (some (Sum.inr ⟨x.toArray⟩ : Key) = some (Sum.inl j))
    rw [decide_eq_false (by simp)]
  | .non, _, h, _ => by cases h
  | .bl _, _, h, _ => by cases h
  | .lst _, _, h, _ => by cases h
  | .tup _, _, h, _ => by cases h
  | .dic _ _ _, _, h, _ => by cases h
  | .hp _, _, h, _ => by cases h
  | .fn _, _, h, _ => by cases h
  | .clo _ _, _, h, _ => by cases h
  | .ks _, _, h, _ => by cases h
  | _, .non, _, h => by cases h
  | _, .bl _, _, h => by cases h
  | _, .lst _, _, h => by cases h
  | _, .tup _, _, h => by cases h
  | _, .dic _ _ _, _, h => by cases h
  | _, .hp _, _, h => by cases h
  | _, .fn _, _, h => by cases h
  | _, .clo _ _, _, h => by cases h
  | _, .ks _, _, h => by cases h
end
theorem keyA_kOf {x : W} (h : keyA x = true) : ∃ k, kOf x = some k := by
  cases x <;> first | exact ⟨_, rfl⟩ | (cases h; done)
theorem keyAs_ksOf : ∀ {xs : List W}, xs.all keyA = true → ∃ ks, ksOf xs = some ks
  | [], _ => ⟨[], rfl⟩
  | x :: xs, h => by
    rw [List.all_cons, Bool.and_eq_true] at h
    obtain ⟨k, e⟩ := keyA_kOf h.1
    obtain ⟨ks, e2⟩ := keyAs_ksOf h.2
    exact ⟨k :: ks, by simp [ksOf, e, e2]⟩
theorem ksOf_keyA : ∀ {xs : List W} {l : List Key}, ksOf xs = some l → xs.all keyA = true
  | [], _, _ => rfl
  | x :: xs, l, e => by
    unfold ksOf at e
    split at e
    · rename_i k1 ks1 e1 e2
      rw [List.all_cons, ksOf_keyA e2, Bool.and_true]
      cases x <;> first | rfl | (cases e1; done)
    · cases e
theorem sameKs_ksOf : ∀ (xs ks : List W), xs.all keyA = true → ks.all keyA = true → sameKs xs ks = decide (ksOf xs = ksOf ks)
  | [], [], _, _ => by simp [sameKs]
  | [], y :: ys, _, h => by
    obtain ⟨ks, e⟩ := keyAs_ksOf h
    have z := ksOf_len e
    rw [e]
    show false = decide (some [] = some ks)
    rw [decide_eq_false (fun q => by cases q; simp at z)]
  | x :: xs, [], h, _ => by
    obtain ⟨ks, e⟩ := keyAs_ksOf h
    have z := ksOf_len e
    rw [e]
    show false = decide (some ks = some [])
    rw [decide_eq_false (fun q => by cases q; simp at z)]
  | x :: xs, y :: ys, h, g => by
    rw [List.all_cons, Bool.and_eq_true] at h g
    have a := sameK_kOf x y h.1 g.1
    have b := sameKs_ksOf xs ys h.2 g.2
    obtain ⟨k, e⟩ := keyA_kOf h.1
    obtain ⟨ks, e2⟩ := keyAs_ksOf h.2
    obtain ⟨k', e'⟩ := keyA_kOf g.1
    obtain ⟨ks', e2'⟩ := keyAs_ksOf g.2
    show (if sameK x y then sameKs xs ys else false) = _
    rw [a, b]
    simp only [ksOf, e, e2, e', e2', Option.some.injEq, List.cons.injEq]
    by_cases q : k = k'
    · subst q; simp
    · simp [q]
section
variable {G : GI} {F : Fz} {r : List Addr} {H : Hp} {h : HH} {R : List Addr} {Q : VK} {X : Cx}
theorem RW.key {w : W} {v : V} {k : Key} (q : RW G F r H w v) (e : kOf w = some k) : v = kV k := by
  cases q <;> first | (cases e; rfl) | (cases e; done)
theorem RWs.keys : ∀ {w : List W} {v : List V} {k : List Key}, RWs G F r H w v → ksOf w = some k → v = k.map kV
  | _, _, k, .nil, e => by cases e; rfl
  | _, _, k, .cons (x := x) (xs := xs) a b, e => by
    unfold ksOf at e
    split at e
    · rename_i k1 ks1 e1 e2
      cases e
      rw [a.key e1, RWs.keys b e2]
      rfl
    · cases e
theorem keyW_f {w : W} (h : keyW false w = true) : keyA w = true := by
  cases w <;> simpa [keyW] using h
theorem keyW_t {w : W} (h : keyW true w = true) : ∃ xs, w = .tup xs ∧ xs.all keyA = true := by
  cases w with
  | tup xs => exact ⟨xs, rfl, by simpa [keyW] using h⟩
  | _ => simp [keyW] at h
/-- keys of a dict all stand for keys -/
theorem lookK_k {α : Type} {k : W} {kk : Key} (hk : keyA k = true) (ek : kOf k = some kk) : ∀ {ks : List W} {vs : List W} {kvs : List (Key × V)}, ks.map kOf = kvs.map (fun p => some p.1) → RWs G F r H vs (kvs.map (·.2)) →
    (∀ w, lookK k ks vs = some w → ∃ v, valV kvs kk = some v ∧ RW G F r H w v) ∧ (lookK k ks vs = none → valV kvs kk = none)
  | [], vs, [], _, q => by
    cases q
    exact ⟨fun w e => by simp [lookK] at e, fun _ => rfl⟩
  | [], vs, p :: kvs, e, q => by simp at e
  | x :: ks, vs, [], e, q => by simp at e
  | x :: ks, vs, p :: kvs, e, q => by
    simp only [List.map_cons, List.cons.injEq] at e
    obtain ⟨e1, e2⟩ := e
    cases q with
    | cons a b =>
      rename_i y ys
      obtain ⟨i1, i2⟩ := lookK_k (α := α) hk ek e2 b
      have hx : keyA x = true := by
        cases x <;> first | rfl | (cases e1; done)
      have hs := sameK_kOf x k hx hk
      rw [e1, ek] at hs
      by_cases c : p.1 = kk
      · have hs : sameK x k = true := by rw [hs]; simp [c]
        refine ⟨fun w e => ?_, fun e => ?_⟩
        · simp only [lookK, hs, if_true, Option.some.injEq] at e
          subst e
          exact ⟨p.2, valV_pos c, a⟩
        · simp [lookK, hs] at e
      · have hs : sameK x k = false := by rw [hs]; simp [c]
        refine ⟨fun w e => ?_, fun e => ?_⟩
        · simp only [lookK, hs] at e
          rw [valV_neg c]
          exact i1 w (by simpa using e)
        · simp only [lookK, hs] at e
          rw [valV_neg c]
          exact i2 (by simpa using e)
theorem lookK_t {k : List W} {kk : List Key} (hk : k.all keyA = true) (ek : ksOf k = some kk) : ∀ {ks : List W} {vs : List W} {kvs : List (List Key × V)}, ks.map ktOf = kvs.map (fun p => some p.1) → RWs G F r H vs (kvs.map (·.2)) →
    (∀ w, lookK (.tup k) ks vs = some w → ∃ v, valV kvs kk = some v ∧ RW G F r H w v) ∧ (lookK (.tup k) ks vs = none → valV kvs kk = none)
  | [], vs, [], _, q => by
    cases q
    exact ⟨fun w e => by simp [lookK] at e, fun _ => rfl⟩
  | [], vs, p :: kvs, e, q => by simp at e
  | x :: ks, vs, [], e, q => by simp at e
  | x :: ks, vs, p :: kvs, e, q => by
    simp only [List.map_cons, List.cons.injEq] at e
    obtain ⟨e1, e2⟩ := e
    cases q with
    | cons a b =>
      obtain ⟨i1, i2⟩ := lookK_t hk ek e2 b
      obtain ⟨xs, ex⟩ : ∃ xs, x = .tup xs := by
        cases x <;> first | exact ⟨_, rfl⟩ | (cases e1; done)
      subst ex
      have hx : xs.all keyA = true := ksOf_keyA (show ksOf xs = some p.1 from e1)
      have hs := sameKs_ksOf xs k hx hk
      have e1 : ksOf xs = some p.1 := e1
      rw [e1, ek] at hs
      by_cases c : p.1 = kk
      · have hs : sameK (.tup xs) (.tup k) = true := by show sameKs xs k = true; rw [hs]; simp [c]
        refine ⟨fun w e => ?_, fun e => ?_⟩
        · simp only [lookK, hs, if_true, Option.some.injEq] at e
          subst e
          exact ⟨p.2, valV_pos c, a⟩
        · simp [lookK, hs] at e
      · have hs : sameK (.tup xs) (.tup k) = false := by show sameKs xs k = false; rw [hs]; simp [c]
        refine ⟨fun w e => ?_, fun e => ?_⟩
        · simp only [lookK, hs] at e
          rw [valV_neg c]
          exact i1 w (by simpa using e)
        · simp only [lookK, hs] at e
          rw [valV_neg c]
          exact i2 (by simpa using e)
/-- a dict asked -/
theorem dget {t : Bool} {ks vs : List W} {v : V} {k : W} {u : V} (q : VW G F r H (.dic t ks vs) v) (p : VW G F r H k u) (hk : keyW t k = true) :
    ∃ a, v = .ref a ∧ ((∃ w z, lookK k ks vs = some w ∧ DGet H a u (some z) ∧ RW G F r H w z) ∨ (lookK k ks vs = none ∧ DGet H a u none)) := by
  have hK : ∀ {a : Addr} {kvs : List (Key × V)}, t = false → H a = some (.dK kvs) → ks.map kOf = kvs.map (fun p => some p.1) → RWs G F r H vs (kvs.map (·.2)) →
      ((∃ w z, lookK k ks vs = some w ∧ DGet H a u (some z) ∧ RW G F r H w z) ∨ (lookK k ks vs = none ∧ DGet H a u none)) := by
    intro a kvs ht h1 h2 h3
    subst ht
    have ka := keyW_f hk
    obtain ⟨kk, ek⟩ := keyA_kOf ka
    have eu : u = kV kk := by
      cases p with
      | w p => exact p.key ek
      | _ => cases ek
    obtain ⟨i1, i2⟩ := lookK_k (α := Unit) ka ek h2 h3
    cases e : lookK k ks vs with
    | some w =>
      obtain ⟨z, e1, e2⟩ := i1 w e
      exact .inl ⟨w, z, rfl, by rw [← e1, eu]; exact DGet.k h1, e2⟩
    | none => exact .inr ⟨rfl, by rw [← i2 e, eu]; exact DGet.k h1⟩
  have hT : ∀ {a : Addr} {kvs : List (List Key × V)}, t = true → H a = some (.dT kvs) → ks.map ktOf = kvs.map (fun p => some p.1) → RWs G F r H vs (kvs.map (·.2)) →
      ((∃ w z, lookK k ks vs = some w ∧ DGet H a u (some z) ∧ RW G F r H w z) ∨ (lookK k ks vs = none ∧ DGet H a u none)) := by
    intro a kvs ht h1 h2 h3
    subst ht
    obtain ⟨xs, ex, ka⟩ := keyW_t hk
    subst ex
    obtain ⟨kk, ek⟩ := keyAs_ksOf ka
    obtain ⟨b, us, eu, hb, qb⟩ := p.tuple
    have eu2 := qb.keys ek
    subst eu2
    obtain ⟨i1, i2⟩ := lookK_t ka ek h2 h3
    cases e : lookK (.tup xs) ks vs with
    | some w =>
      obtain ⟨z, e1, e2⟩ := i1 w e
      exact .inl ⟨w, z, rfl, by rw [← e1, eu]; exact DGet.t h1 hb, e2⟩
    | none => exact .inr ⟨rfl, by rw [← i2 e, eu]; exact DGet.t h1 hb⟩
  cases q with
  | w q =>
    cases q with
    | dicK _ h1 h2 h3 => exact ⟨_, rfl, hK rfl h1 h2 h3⟩
    | dicT _ h1 h2 h3 => exact ⟨_, rfl, hT rfl h1 h2 h3⟩
  | dicK h1 h2 h3 => exact ⟨_, rfl, hK rfl h1 h2 h3⟩
  | dicT h1 h2 h3 => exact ⟨_, rfl, hT rfl h1 h2 h3⟩
end
end Mini
set_option Elab.async false
set_option linter.all false
set_option maxRecDepth 100000
set_option maxHeartbeats 1000000
/-! Mini: in, places, slices, truth, functions of values: the rules. -/
namespace Mini
open PySem L2
section
variable {G : GI} {F : Fz} {r : List Addr} {H : Hp} {h : HH} {R : List Addr} {Q : VK} {X : Cx}
theorem toPDs_list (ys : List W) : toPD (.lst ys) = .list (toPDs ys) := rfl
theorem inD_cases {x y : W} {b : Bool} (e : cmpD .isin x y = some b) : (∃ t ks vs, y = .dic t ks vs ∧ keyW t x = true ∧ b = (lookK x ks vs).isSome) ∨ inC x y = some b := by
  unfold cmpD at e
  cases y with
  | dic t ks vs =>
    simp only [inD] at e
    split at e
    · cases e
      exact .inl ⟨t, ks, vs, rfl, by assumption, rfl⟩
    · cases e
  | _ => exact .inr e
theorem op_inDT (hu : X.A.units + 65 < cLine) : OpR X (compareOp .In) fun x y H Q => ∃ d ds, Dp X.K H x d ∧ Dp X.K H y (.tuple ds) ∧ SeqAt.shaped d = true ∧ SeqAt.shaped (.tuple ds) = true ∧ Q (.bl (ds.any fun z => PyData.eqv z d)) H := by
  intro pins s σ H x y v u Q I rx ry ⟨d, ds, hd, he, sd, se, q⟩
  obtain ⟨as, r1⟩ := Dp.reads I d x v hd rx
  obtain ⟨bs, r2⟩ := Dp.reads I (.tuple ds) y u he ry
  exact SeqAt.in_tuple_reads r2 r1 (SeqAt.canLay_of_shaped se) (SeqAt.canLay_of_shaped sd) (PyProof.Rows.room_in_shaped sd hu) ⟨.bl _, H, I, rfl, q⟩
theorem op_notInDT (hu : X.A.units + 65 < cLine) : OpR X (compareOp .NotIn) fun x y H Q => ∃ d ds, Dp X.K H x d ∧ Dp X.K H y (.tuple ds) ∧ SeqAt.shaped d = true ∧ SeqAt.shaped (.tuple ds) = true ∧ Q (.bl (!ds.any fun z => PyData.eqv z d)) H := by
  intro pins s σ H x y v u Q I rx ry ⟨d, ds, hd, he, sd, se, q⟩
  obtain ⟨as, r1⟩ := Dp.reads I d x v hd rx
  obtain ⟨bs, r2⟩ := Dp.reads I (.tuple ds) y u he ry
  exact SeqAt.notIn_tuple_reads r2 r1 (SeqAt.canLay_of_shaped se) (SeqAt.canLay_of_shaped sd) (PyProof.Rows.room_in_shaped sd hu) ⟨.bl _, H, I, rfl, q⟩
theorem op_cmp_in (hK : X.K = G.K) (hu : X.A.units + 65 < cLine) : OpR X (compareOp .In) (rCmp G (cmpD .isin)) := by
  rintro pins s σ H x y v u Q I rx ry ⟨F, r, h, R, a, b, o, wi, va, vb, e, k⟩
  have e0 := inD_cases e
  clear e
  rcases e0 with ⟨t, ks, vs, rfl, hk, rfl⟩ | e
  · obtain ⟨d, rfl, q⟩ := dget vb va hk
    cases (show u = Value.ref d from ry)
    rcases q with ⟨w, z, e1, e2, e3⟩ | ⟨e1, e2⟩
    · rw [e1] at k
      exact d_in (by omega) I e2 rx fun s' I' => ⟨.bl true, H, I', rfl, k⟩
    · rw [e1] at k
      exact d_in (by omega) I e2 rx fun s' I' => ⟨.bl false, H, I', rfl, k⟩
  · unfold inC at e
    split at e
    · rename_i ys
      split at e
      · rename_i hb
        cases e
        rw [Bool.and_eq_true] at hb
        refine op_inD hu pins s σ H x y v u Q I rx ry ⟨toPD a, toPDs ys, hK ▸ va.dp hb.1, hK ▸ vb.dp (n := 60) hb.2, shaped_pd hb.1 (by decide), shaped_pd (n := 60) (w := .lst ys) hb.2 (by decide), ?_⟩
        rw [← inW_pd 59 59 a hb.1 ys hb.2]
        exact k
      · cases e
    · rename_i ys
      split at e
      · rename_i hb
        cases e
        rw [Bool.and_eq_true] at hb
        refine op_inDT hu pins s σ H x y v u Q I rx ry ⟨toPD a, toPDs ys, hK ▸ va.dp hb.1, hK ▸ vb.dp (n := 60) hb.2, shaped_pd hb.1 (by decide), shaped_pd (n := 60) (w := .tup ys) hb.2 (by decide), ?_⟩
        rw [← inW_pd 59 59 a hb.1 ys hb.2]
        exact k
      · cases e
    · cases e
theorem ninD_cases {x y : W} {b : Bool} (e : cmpD .notin x y = some b) : (∃ t ks vs, y = .dic t ks vs ∧ keyW t x = true ∧ b = !(lookK x ks vs).isSome) ∨ ∃ c, inC x y = some c ∧ b = !c := by
  unfold cmpD at e
  cases y with
  | dic t ks vs =>
    simp only [inD] at e
    split at e
    · rename_i c ec
      split at ec
      · cases ec
        cases e
        exact .inl ⟨t, ks, vs, rfl, by assumption, rfl⟩
      · cases ec
    · cases e
  | _ =>
    simp only [cmpW] at e
    split at e
    · rename_i c ec
      cases e
      exact .inr ⟨c, ec, rfl⟩
    · cases e
theorem op_cmp_notin (hK : X.K = G.K) (hu : X.A.units + 65 < cLine) : OpR X (compareOp .NotIn) (rCmp G (cmpD .notin)) := by
  rintro pins s σ H x y v u Q I rx ry ⟨F, r, h, R, a, b, o, wi, va, vb, e, k⟩
  have e0 := ninD_cases e
  clear e
  rcases e0 with ⟨t, ks, vs, rfl, hk, rfl⟩ | ⟨c, e, rfl⟩
  · obtain ⟨d, rfl, q⟩ := dget vb va hk
    cases (show u = Value.ref d from ry)
    rcases q with ⟨w, z, e1, e2, e3⟩ | ⟨e1, e2⟩
    · rw [e1] at k
      exact d_notIn (by omega) I e2 rx fun s' I' => ⟨.bl false, H, I', rfl, k⟩
    · rw [e1] at k
      exact d_notIn (by omega) I e2 rx fun s' I' => ⟨.bl true, H, I', rfl, k⟩
  · unfold inC at e
    split at e
    · rename_i ys
      split at e
      · rename_i hb
        cases e
        rw [Bool.and_eq_true] at hb
        refine op_notInD hu pins s σ H x y v u Q I rx ry ⟨toPD a, toPDs ys, hK ▸ va.dp hb.1, hK ▸ vb.dp (n := 60) hb.2, shaped_pd hb.1 (by decide), shaped_pd (n := 60) (w := .lst ys) hb.2 (by decide), ?_⟩
        rw [← inW_pd 59 59 a hb.1 ys hb.2]
        exact k
      · cases e
    · rename_i ys
      split at e
      · rename_i hb
        cases e
        rw [Bool.and_eq_true] at hb
        refine op_notInDT hu pins s σ H x y v u Q I rx ry ⟨toPD a, toPDs ys, hK ▸ va.dp hb.1, hK ▸ vb.dp (n := 60) hb.2, shaped_pd hb.1 (by decide), shaped_pd (n := 60) (w := .tup ys) hb.2 (by decide), ?_⟩
        rw [← inW_pd 59 59 a hb.1 ys hb.2]
        exact k
      · cases e
    · cases e
/-! ### places -/
theorem ixN_eq (n : Nat) (i : Int) : Mini.ixN n i = L2.ixN n i := rfl
theorem atW_ok {xs : List W} {vs : List V} (q : RWs G F r H xs vs) {i : Int} {w : W} (e : atW xs i = some w) : ∃ v, L2.atI vs i = some v ∧ RW G F r H w v := by
  unfold atW at e
  unfold L2.atI
  rw [← q.len, ← ixN_eq]
  split at e
  · rename_i j ej
    rw [ej]
    obtain ⟨v, e1, e2⟩ := q.get e
    exact ⟨v, e1, e2⟩
  · cases e
variable (G) in
def rGet : R2 := fun v u H Q => ∃ F r h R x y w, WI G F r H h R ∧ VW G F r H x v ∧ VW G F r H y u ∧ getW x y = some w ∧ ∀ z, RW G F r H w z → Q z H
theorem ix_get (hu : X.A.units + 1 < cLine) : IxR X (rGet G) := by
  rintro value slice pins s σ H x y v u Q I rx ry ⟨F, r, h, R, a, b, w, wi, va, vb, e, k⟩ hs
  unfold getW at e
  split at e
  · rename_i t ks vs kk
    split at e
    · rename_i hk
      obtain ⟨d, rfl, q⟩ := dget va vb hk
      cases (show v = Value.ref d from rx)
      rcases q with ⟨w', z, e1, e2, e3⟩ | ⟨e1, e2⟩
      · rw [e1] at e
        cases e
        exact PyProof.Rows.tail_any (dict_typeIs I e2) PySem.F.slot_dict_getitem.lookup (d_getItem hu I e2 ry fun w' s' I' rw' => ⟨z, H, I', rw', k z e3⟩) hs
      · rw [e1] at e
        cases e
    · cases e
  · unfold idxW at e
    split at e
    · obtain ⟨p, us, e1, h1, q1⟩ := va.list
      obtain ⟨z, e2, e3⟩ := atW_ok q1 e
      exact ix_list value slice pins s σ H x y v u Q I rx ry ⟨p, us, _, z, e1, vb.int, .of h1, e2, k z e3⟩ hs
    · obtain ⟨p, us, e1, h1, q1⟩ := va.tuple
      obtain ⟨z, e2, e3⟩ := atW_ok q1 e
      exact ix_tup value slice pins s σ H x y v u Q I rx ry ⟨p, us, _, z, e1, vb.int, .of h1, e2, k z e3⟩ hs
    · cases e
/-! ### slices -/
theorem cut_ok {xs : List W} {vs : List V} (q : RWs G F r H xs vs) (lo hi : Option Int) : RWs G F r H (cutL xs lo hi) (cutV vs lo hi) := by
  have e : ∀ n d o, sIx n d o = HT.sIx n d o := fun n d o => by cases o <;> rfl
  unfold cutL cutV
  rw [← q.len, e, e]
  exact (q.drop _).take _
variable (G) in
def rSlc : V → Option Int → Option Int → Hp → VK → Prop := fun v lo hi H Q => ∃ F r h R x o, WI G F r H h R ∧ VW G F r H x v ∧ slcW x lo hi = some o ∧ Fin G F r H h R Q o
theorem sl_slc : SlR X (rSlc G) := by
  rintro pins s σ H x v vl vu lo hi sl Q I rx hs pl pu ⟨F, r, h, R, a, o, wi, va, e, k⟩
  unfold slcW at e
  split at e
  · rename_i xs
    cases e
    obtain ⟨p, us, e1, h1, q1⟩ := va.list
    exact sl_list pins s σ H x v vl vu lo hi sl Q I rx hs pl pu ⟨p, us, e1, .of h1, fun p2 hp => k.lst wi hp (cut_ok q1 lo hi)⟩
  · rename_i xs
    cases e
    obtain ⟨p, us, e1, h1, q1⟩ := va.tuple
    refine sl_tupA pins s σ H x v vl vu lo hi sl Q I rx hs pl pu ⟨p, us, e1, .of h1, fun z => ?_, fun _ p2 hp => k.tup wi hp (cut_ok q1 lo hi)⟩
    have q2 := cut_ok q1 lo hi
    have e3 : cutV us lo hi = us := by
      unfold cutV
      rw [z.1, z.2]
      simp
    rw [e3] at q2
    exact k.sh wi (.tup h1 q2)
  · cases e
/-! ### truth -/
variable (G) in
def rTru : V → Hp → (Bool → Hp → Prop) → Prop := fun v H Q => ∃ F r h R x b, WI G F r H h R ∧ VW G F r H x v ∧ truW x = some b ∧ Q b H
theorem tru_w : TruR X (rTru G) := by
  rintro pins s σ H x v Q I rx ⟨F, r, h, R, a, b, wi, va, e, k⟩
  have emp : ∀ {xs : List W} {us : List V}, RWs G F r H xs us → (!xs.isEmpty) = !us.isEmpty := fun q => by cases q <;> rfl
  refine tru_ok pins s σ H x v Q I rx ⟨b, ?_, k⟩
  unfold truW at e
  split at e
  · cases e; rw [va.non]; rfl
  · cases e; rw [va.bl]; rfl
  · cases e; rw [va.int]
    rename_i i
    show decide (i ≠ 0) = (i != 0)
    by_cases z : i = 0
    · subst z; rfl
    · rw [decide_eq_true z]; exact (bne_iff_ne.mpr z).symm
  · rename_i z
    split at e
    · rename_i hz
      cases e
      rw [va.str]
      refine ⟨by rw [strLen, ← line_eq]; exact hz, ?_⟩
      rw [strLen]
      cases z with
      | nil => rfl
      | cons a l =>
        show true = (((a :: l).length : Int) != 0)
        symm
        rw [bne_iff_ne, List.length_cons]
        omega
    · cases e
  · cases e
    obtain ⟨p, us, e1, h1, q1⟩ := va.tuple
    rw [e1]
    exact .inr (.inl ⟨us, .of h1, emp q1⟩)
  · cases e
    obtain ⟨p, us, e1, h1, q1⟩ := va.list
    rw [e1]
    exact .inl ⟨us, .of h1, emp q1⟩
  · cases e
    have fin : ∀ {a : Addr} {ks : List W} {kvs : List (Key × V)}, H a = some (.dK kvs) → ks.map kOf = kvs.map (fun p => some p.1) → TruV X.K (.ref a) H (!ks.isEmpty) := fun {a ks kvs} h1 h2 => by
      refine .inr (.inr ⟨kvs, h1, ?_⟩)
      cases ks <;> cases kvs <;> first | rfl | (simp at h2; done)
    cases va with
    | w q =>
      cases q with
      | dicK _ h1 h2 _ => exact fin h1 h2
    | dicK h1 h2 _ => exact fin h1 h2
  · cases e
/-! ### is -/
variable (G) in
def rIsn : R2 := fun v u H Q => u = .non ∧ ∃ F r h R x, WI G F r H h R ∧ VW G F r H x v ∧ Q (.bl (isNon x)) H
theorem isn_w {w : W} {v : V} (q : VW G F r H w v) : decide (v = .non) = isNon w := by
  cases q with
  | w q => cases q <;> rfl
  | _ => rfl
theorem op_isn : OpR X (compareOp .Is) (rIsn G) := by
  rintro pins s σ H x y v u Q I rx ry ⟨ey, F, r, h, R, a, wi, va, k⟩
  exact op_isN pins s σ H x y v u Q I rx ry ⟨ey, by rw [isn_w va]; exact k⟩
variable (G) in
def rNsn : R2 := fun v u H Q => u = .non ∧ ∃ F r h R x, WI G F r H h R ∧ VW G F r H x v ∧ Q (.bl (!isNon x)) H
theorem op_nsn : OpR X (compareOp .IsNot) (rNsn G) := by
  rintro pins s σ H x y v u Q I rx ry ⟨ey, F, r, h, R, a, wi, va, k⟩
  refine op_notN pins s σ H x y v u Q I rx ry ⟨ey, ?_⟩
  rw [isn_w va]
  exact k
end
end Mini
set_option Elab.async false
set_option linter.all false
set_option maxRecDepth 100000
set_option maxHeartbeats 1000000
/-! Mini: the least and the greatest of a tuple of ints. -/
namespace Mini
open PySem L2 PyProof.Rows
section
variable {prog : Program} {w : World} {A : Around} {E : Value → Shared → Prop} {s : Shared} {l : Addr}
/-- what stood ahead stands yet, with a tuple's iterator on top -/
theorem tupit_old {h' : Heap} {l : Addr} (hk : ∀ b o, b ∉ [s.heap.objs.size] → (s.heap.push { cls := .type "tuple_iterator", data := .fields #[.ref l, .int 0 0] }).get? b = some o → h'.get? b = some o) (b : Addr) (o : Obj)
    (e : s.heap.get? b = some o) : h'.get? b = some o := by
  have hb : b ∉ [s.heap.objs.size] := by
    intro hm
    rw [List.mem_singleton] at hm
    subst hm
    exact absurd (Heap.lt_size e) (Nat.lt_irrefl _)
  exact hk b o hb (Heap.get?_push_of_some _ e)
theorem tupit_in {xs : Array Value} (hT : s.heap.IsTuple l xs) : ∀ b ∈ [s.heap.objs.size, l], b < (s.heap.push { cls := .type "tuple_iterator", data := .fields #[.ref l, .int 0 0] }).objs.size := by
  have hlt : l < s.heap.objs.size := by
    obtain ⟨_, e, _⟩ := hT
    exact Heap.lt_size e
  intro b hb
  rw [Heap.size_push]
  simp only [List.mem_cons, List.not_mem_nil, or_false] at hb
  rcases hb with hb | hb
  · rw [hb]
    exact Nat.lt_succ_self _
  · rw [hb]
    exact Nat.lt_succ_of_lt hlt
theorem tupit_ne {xs : Array Value} (hT : s.heap.IsTuple l xs) : l ≠ s.heap.objs.size := by
  obtain ⟨_, e, _⟩ := hT
  exact Nat.ne_of_lt (Heap.lt_size e)
theorem min_tup {xs : Array (Int × Tok)} {Q : Value → Shared → Prop} (hh : A.handled = none) (hT : s.heap.IsTuple l (intItems xs)) (hne : 0 < xs.size)
    (h : ∀ v h' tk, (intItems xs)[argBest (fun i j => decide (numAt xs i < numAt xs j)) (xs.size - 1)]? = some v → (∀ b o, s.heap.get? b = some o → h'.get? b = some o) → Q v { s with heap := h', toks := tk }) :
    wpAny (model prog w) A (call (.builtin "min") [.ref l]) Q E s := by
  refine call_min_walk (wpAny_pyIter_tuple hT ?_)
  refine ⟨s.heap.objs.size, [s.heap.objs.size, l], [s.heap.objs.size], _, _, _, _, rfl, Walks.tuple (A := A.in1) hh _ l (tupit_ne hT) (intItems xs), ⟨⟨_, Heap.get?_push_size _ rfl, rfl, rfl⟩, hT.push _⟩, tupit_in hT, by simpa [intItems] using hne,
    CmpOf.ints_lt (numAt xs) (fun _ _ => intItems_at), fun v h' tk hP hk => ?_⟩
  exact h v h' tk (by simpa [intItems] using hP) (tupit_old hk)
theorem max_tup {xs : Array (Int × Tok)} {Q : Value → Shared → Prop} (hh : A.handled = none) (hT : s.heap.IsTuple l (intItems xs)) (hne : 0 < xs.size)
    (h : ∀ v h' tk, (intItems xs)[argBest (fun i j => decide (numAt xs i > numAt xs j)) (xs.size - 1)]? = some v → (∀ b o, s.heap.get? b = some o → h'.get? b = some o) → Q v { s with heap := h', toks := tk }) :
    wpAny (model prog w) A (call (.builtin "max") [.ref l]) Q E s := by
  refine call_max_walk (wpAny_pyIter_tuple hT ?_)
  refine ⟨s.heap.objs.size, [s.heap.objs.size, l], [s.heap.objs.size], _, _, _, _, rfl, Walks.tuple (A := A.in1) hh _ l (tupit_ne hT) (intItems xs), ⟨⟨_, Heap.get?_push_size _ rfl, rfl, rfl⟩, hT.push _⟩, tupit_in hT, by simpa [intItems] using hne,
    CmpOf.ints_gt (numAt xs) (fun _ _ => intItems_at), fun v h' tk hP hk => ?_⟩
  exact h v h' tk (by simpa [intItems] using hP) (tupit_old hk)
theorem min_tupI {its : List Value} {ns : List Int} {Q : Value → Shared → Prop} (hh : A.handled = none) (hT : s.heap.IsTuple l its.toArray) (hi : IntsAre its ns) (hne : 0 < ns.length)
    (k : ∀ h' tk M t, (∀ b o, s.heap.get? b = some o → h'.get? b = some o) → M ∈ ns → (∀ a ∈ ns, M ≤ a) → Q (.int M t) { s with heap := h', toks := tk }) : wpAny (model prog w) A (call (.builtin "min") [.ref l]) Q E s := by
  obtain ⟨xs, e⟩ := hi.allInts.items
  have hn : numsOf its.toArray.toList = ns := hi.numsOf
  rw [e, nums_intItems] at hn
  subst hn
  rw [e] at hT
  have hs : 0 < xs.size := by simpa using hne
  refine min_tup hh hT hs fun v h' tk hv hk => ?_
  obtain ⟨t, rfl⟩ := intItems_at hv
  have best := argBest_lt (numAt xs) (xs.size - 1)
  refine k h' tk _ t hk ?_ fun a ha => ?_
  · rw [numAt_eq]
    refine PySem.getD_mem ?_
    have b1 := best.1
    rw [List.length_map, Array.length_toList]
    omega
  · obtain ⟨j, hj, rfl⟩ := mem_getD ha
    rw [← numAt_eq]
    refine best.2 j ?_
    simp at hj
    omega
theorem max_tupI {its : List Value} {ns : List Int} {Q : Value → Shared → Prop} (hh : A.handled = none) (hT : s.heap.IsTuple l its.toArray) (hi : IntsAre its ns) (hne : 0 < ns.length)
    (k : ∀ h' tk M t, (∀ b o, s.heap.get? b = some o → h'.get? b = some o) → M ∈ ns → (∀ a ∈ ns, a ≤ M) → Q (.int M t) { s with heap := h', toks := tk }) : wpAny (model prog w) A (call (.builtin "max") [.ref l]) Q E s := by
  obtain ⟨xs, e⟩ := hi.allInts.items
  have hn : numsOf its.toArray.toList = ns := hi.numsOf
  rw [e, nums_intItems] at hn
  subst hn
  rw [e] at hT
  have hs : 0 < xs.size := by simpa using hne
  refine max_tup hh hT hs fun v h' tk hv hk => ?_
  obtain ⟨t, rfl⟩ := intItems_at hv
  have best := argBest_gt (numAt xs) (xs.size - 1)
  refine k h' tk _ t hk ?_ fun a ha => ?_
  · rw [numAt_eq]
    refine PySem.getD_mem ?_
    have b1 := best.1
    rw [List.length_map, Array.length_toList]
    omega
  · obtain ⟨j, hj, rfl⟩ := mem_getD ha
    rw [← numAt_eq]
    refine best.2 j ?_
    simp at hj
    omega
end
section
variable {X : Cx}
theorem cr_minT (hc : X.calm = true) : CallR X (.builtin "min") (fun vs H Q => ∃ (a : Addr) (ns : List Int), vs = [V.ref a] ∧ SqT X.K H a (ns.map V.int) ∧ 0 < ns.length ∧ ∀ m, m ∈ ns → (∀ y ∈ ns, m ≤ y) → Q (.int m) H) := by
  rintro pins s σ H vs us Q I r ⟨a, ns, rfl, hs, hne, q⟩
  obtain ⟨its, rv, hl, _⟩ := I.tuple hs
  rw [Vals.ref1 r]
  exact min_tupI (I.ok.hd hc) hl rv.ints hne fun h' tk m t' hk h1 h2 => ⟨.int _, H, I.kept hk, ⟨_, rfl⟩, q m h1 h2⟩
theorem cr_maxT (hc : X.calm = true) : CallR X (.builtin "max") (fun vs H Q => ∃ (a : Addr) (ns : List Int), vs = [V.ref a] ∧ SqT X.K H a (ns.map V.int) ∧ 0 < ns.length ∧ ∀ m, m ∈ ns → (∀ y ∈ ns, y ≤ m) → Q (.int m) H) := by
  rintro pins s σ H vs us Q I r ⟨a, ns, rfl, hs, hne, q⟩
  obtain ⟨its, rv, hl, _⟩ := I.tuple hs
  rw [Vals.ref1 r]
  exact max_tupI (I.ok.hd hc) hl rv.ints hne fun h' tk m t' hk h1 h2 => ⟨.int _, H, I.kept hk, ⟨_, rfl⟩, q m h1 h2⟩
end
end Mini
set_option Elab.async false
set_option linter.all false
set_option maxRecDepth 100000
set_option maxHeartbeats 1000000
/-! Mini: functions of values. -/
namespace Mini
open PySem L2
section
variable (G : GI) (F : Fz) (r : List Addr) (H : Hp)
inductive VWs : List W → List V → Prop where
  | nil : VWs [] []
  | cons {x : W} {v : V} {xs : List W} {vs : List V} : VW G F r H x v → VWs xs vs → VWs (x :: xs) (v :: vs)
def rFn (f : List W → Option O) : List V → Hp → VK → Prop := fun vs H Q => ∃ F r h R ws o, WI G F r H h R ∧ VWs G F r H ws vs ∧ f ws = some o ∧ Fin G F r H h R Q o
end
section
variable {G : GI} {F : Fz} {r : List Addr} {H : Hp} {h : HH} {R : List Addr} {Q : VK} {X : Cx}
theorem VWs.one {x : W} {vs : List V} (q : VWs G F r H [x] vs) : ∃ v, vs = [v] ∧ VW G F r H x v := by
  cases q with
  | cons a b => cases b; exact ⟨_, rfl, a⟩
theorem VWs.two {x y : W} {vs : List V} (q : VWs G F r H [x, y] vs) : ∃ v u, vs = [v, u] ∧ VW G F r H x v ∧ VW G F r H y u := by
  cases q with
  | cons a b =>
    obtain ⟨u, e, c⟩ := b.one
    subst e
    exact ⟨_, _, rfl, a, c⟩
theorem fn_len : CallR X (.builtin "len") (rFn G lenF) := by
  rintro pins s σ H xs us Q I rs ⟨F, r, h, R, ws, o, wi, q, e, k⟩
  unfold lenF at e
  split at e
  · cases e
    obtain ⟨v, rfl, va⟩ := q.one
    obtain ⟨p, us, e1, h1, q1⟩ := va.list
    refine call_len_seq pins s σ H _ _ Q I rs ⟨p, us, by rw [e1], .inl (.of h1), ?_⟩
    rw [← q1.len]
    exact k.sh wi (.int _)
  · cases e
    obtain ⟨v, rfl, va⟩ := q.one
    obtain ⟨p, us, e1, h1, q1⟩ := va.tuple
    refine call_len_seq pins s σ H _ _ Q I rs ⟨p, us, by rw [e1], .inr (.of h1), ?_⟩
    rw [← q1.len]
    exact k.sh wi (.int _)
  · cases e
    rename_i t ks vs
    obtain ⟨v, rfl, va⟩ := q.one
    have dK : ∀ {a : Addr} {kvs : List (Key × V)}, v = .ref a → H a = some (.dK kvs) → ks.map kOf = kvs.map (fun p => some p.1) → wpAny (model X.prog X.w) X.A (PySem.call (.builtin "len") us) (EP X pins σ Q) X.xe s := fun {a kvs} e1 h1 h2 => by
      refine call_lenD pins s σ H _ _ Q I rs ⟨a, kvs, by rw [e1], h1, ?_⟩
      have z := congrArg List.length h2
      rw [List.length_map, List.length_map] at z
      rw [← z]
      exact k.sh wi (.int _)
    have dT : ∀ {a : Addr} {kvs : List (List Key × V)}, v = .ref a → H a = some (.dT kvs) → ks.map ktOf = kvs.map (fun p => some p.1) → wpAny (model X.prog X.w) X.A (PySem.call (.builtin "len") us) (EP X pins σ Q) X.xe s := fun {a kvs} e1 h1 h2 => by
      refine call_len_dT pins s σ H _ _ Q I rs ⟨a, kvs, by rw [e1], h1, ?_⟩
      have z := congrArg List.length h2
      rw [List.length_map, List.length_map] at z
      rw [← z]
      exact k.sh wi (.int _)
    cases va with
    | w va => cases va with
      | dicK _ h1 h2 _ => exact dK rfl h1 h2
      | dicT _ h1 h2 _ => exact dT rfl h1 h2
    | dicK h1 h2 _ => exact dK rfl h1 h2
    | dicT h1 h2 _ => exact dT rfl h1 h2
  · cases e
    rename_i i
    obtain ⟨v, rfl, va⟩ := q.one
    cases va with
    | w va => cases va with
      | opq _ _ =>
        rename_i qa za
        have za := za.1
        generalize G.tok i = u at qa za
        generalize i % 64 = n at za k
        cases u with
        | lst xs =>
          cases za
          obtain ⟨p, us, e1, h1, q1⟩ := (VW.w qa).list
          refine call_len_seq pins s σ H _ _ Q I rs ⟨p, us, by rw [e1], .inl (.of h1), ?_⟩
          rw [← q1.len]
          exact k.sh wi (.int _)
        | tup xs =>
          cases za
          obtain ⟨p, us, e1, h1, q1⟩ := (VW.w qa).tuple
          refine call_len_seq pins s σ H _ _ Q I rs ⟨p, us, by rw [e1], .inr (.of h1), ?_⟩
          rw [← q1.len]
          exact k.sh wi (.int _)
        | _ => cases za
  · cases e
theorem fn_list (hK : X.K = G.K) : CallR X (.type "list") (rFn G listF) := by
  rintro pins s σ H xs us Q I rs ⟨F, r, h, R, ws, o, wi, q, e, k⟩
  unfold listF at e
  split at e
  · cases e
    obtain ⟨v, rfl, va⟩ := q.one
    obtain ⟨p, us, e1, h1, q1⟩ := va.list
    exact call_list_of pins s σ H _ _ Q I rs ⟨p, us, by rw [e1], .inl (.of h1), fun l hl => k.lst wi hl q1⟩
  · cases e
    obtain ⟨v, rfl, va⟩ := q.one
    cases va with
    | w va => cases va with
      | @ks a xs us h1 q1 =>
        refine call_list_of pins s σ H _ _ Q I rs ⟨a, us, rfl, .inl ?_, fun l hl => k.lst wi hl q1⟩
        rw [hK]
        exact h1.elim (fun g => g H) fun g => g.elim (fun ⟨o, e⟩ => .inl (.inr ⟨o, e⟩)) fun ⟨_, e⟩ => .of e
  · cases e
    obtain ⟨v, rfl, va⟩ := q.one
    obtain ⟨p, us, e1, h1, q1⟩ := va.tuple
    exact call_list_of pins s σ H _ _ Q I rs ⟨p, us, by rw [e1], .inr (.of h1), fun l hl => k.lst wi hl q1⟩
  · cases e
theorem fn_tuple : CallR X (.type "tuple") (rFn G tupleF) := by
  rintro pins s σ H xs us Q I rs ⟨F, r, h, R, ws, o, wi, q, e, k⟩
  unfold tupleF at e
  split at e
  · cases e
    obtain ⟨v, rfl, va⟩ := q.one
    obtain ⟨p, us, e1, h1, q1⟩ := va.list
    exact call_tuple_of pins s σ H _ _ Q I rs ⟨p, us, by rw [e1], .inl ⟨.of h1, fun l hl => k.tup wi hl q1⟩⟩
  · cases e
    obtain ⟨v, rfl, va⟩ := q.one
    obtain ⟨p, us, e1, h1, q1⟩ := va.tuple
    exact call_tuple_of pins s σ H _ _ Q I rs ⟨p, us, by rw [e1], .inr ⟨.of h1, k.sh wi (.tup h1 q1)⟩⟩
  · cases e
/-! ### sorting -/
theorem insI_perm (x : Int) : ∀ l : List Int, (insI x l).Perm (x :: l)
  | [] => .refl _
  | y :: ys => by
    unfold insI
    split
    · exact .refl _
    · exact ((insI_perm x ys).cons y).trans (.swap x y ys)
theorem insI_sorted (x : Int) : ∀ l : List Int, l.Pairwise (· ≤ ·) → (insI x l).Pairwise (· ≤ ·)
  | [], _ => by simp [insI]
  | y :: ys, h => by
    unfold insI
    rw [List.pairwise_cons] at h
    split
    · rename_i c
      rw [List.pairwise_cons]
      refine ⟨fun z hz => ?_, List.pairwise_cons.mpr h⟩
      rcases List.mem_cons.mp hz with e | hz
      · omega
      · have := h.1 z hz; omega
    · rename_i c
      rw [List.pairwise_cons]
      refine ⟨fun z hz => ?_, insI_sorted x ys h.2⟩
      rcases List.mem_cons.mp ((insI_perm x ys).mem_iff.mp hz) with e | hz
      · omega
      · exact h.1 z hz
theorem sortI_perm : ∀ l : List Int, (sortI l).Perm l
  | [] => .refl _
  | x :: xs => (insI_perm x (sortI xs)).trans ((sortI_perm xs).cons x)
theorem sortI_sorted : ∀ l : List Int, (sortI l).Pairwise (· ≤ ·)
  | [] => .nil
  | x :: xs => insI_sorted x _ (sortI_sorted xs)
theorem RWs.ofInts : ∀ ns : List Int, RWs G F r H (ns.map W.int) (ns.map V.int)
  | [] => .nil
  | n :: ns => .cons (.int n) (RWs.ofInts ns)
theorem fn_sorted : CallR X (.builtin "sorted") (rFn G sortedF) := by
  rintro pins s σ H xs us Q I rs ⟨F, r, h, R, ws, o, wi, q, e, k⟩
  unfold sortedF at e
  split at e
  · rename_i zs
    split at e
    · rename_i l el
      cases e
      obtain ⟨v, rfl, va⟩ := q.one
      obtain ⟨p, us, e1, h1, q1⟩ := va.list
      have eu := q1.ints el
      subst eu
      refine cr_sortedI pins s σ H _ _ Q I rs ⟨p, l, by rw [e1], .of h1, fun ns' p' hp hs hn => ?_⟩
      have e2 : ns' = sortI l := PySem.W.ksm_same (hp.trans (sortI_perm l).symm) hs (sortI_sorted l)
      subst e2
      refine Fin.lst (xs := (sortI l).map W.int) ?_ wi hn (RWs.ofInts _)
      rw [List.map_map]
      exact k
    · cases e
  · cases e
theorem fn_sum (hc : X.calm = true) : CallR X (.builtin "sum") (rFn G sumF) := by
  rintro pins s σ H xs us Q I rs ⟨F, r, h, R, ws, o, wi, q, e, k⟩
  unfold sumF at e
  split at e
  · split at e
    · rename_i l el
      cases e
      obtain ⟨v, rfl, va⟩ := q.one
      obtain ⟨p, us, e1, h1, q1⟩ := va.list
      have eu := q1.ints el
      subst eu
      exact cr_sum hc pins s σ H _ _ Q I rs ⟨p, l, by rw [e1], .of h1, k.sh wi (.int _)⟩
    · cases e
  · cases e
theorem maxI_ge : ∀ (l : List Int) (m : Int), m ≤ maxI m l ∧ (∀ y ∈ l, y ≤ maxI m l) ∧ (maxI m l = m ∨ maxI m l ∈ l)
  | [], m => ⟨Int.le_refl _, ⟨fun _ h => absurd h (by simp), Or.inl rfl⟩⟩
  | x :: xs, m => by
    unfold maxI
    split
    · rename_i c
      obtain ⟨h1, h2, h3⟩ := maxI_ge xs x
      refine ⟨by omega, fun y hy => ?_, ?_⟩
      · rcases List.mem_cons.mp hy with e | hy
        · omega
        · exact h2 y hy
      · rcases h3 with e | e
        · rw [e]; exact .inr List.mem_cons_self
        · exact .inr (List.mem_cons_of_mem _ e)
    · rename_i c
      obtain ⟨h1, h2, h3⟩ := maxI_ge xs m
      refine ⟨h1, fun y hy => ?_, ?_⟩
      · rcases List.mem_cons.mp hy with e | hy
        · omega
        · exact h2 y hy
      · rcases h3 with e | e
        · exact .inl e
        · exact .inr (List.mem_cons_of_mem _ e)
theorem minI_le : ∀ (l : List Int) (m : Int), minI m l ≤ m ∧ (∀ y ∈ l, minI m l ≤ y) ∧ (minI m l = m ∨ minI m l ∈ l)
  | [], m => ⟨Int.le_refl _, ⟨fun _ h => absurd h (by simp), Or.inl rfl⟩⟩
  | x :: xs, m => by
    unfold minI
    split
    · rename_i c
      obtain ⟨h1, h2, h3⟩ := minI_le xs x
      refine ⟨by omega, fun y hy => ?_, ?_⟩
      · rcases List.mem_cons.mp hy with e | hy
        · omega
        · exact h2 y hy
      · rcases h3 with e | e
        · rw [e]; exact .inr List.mem_cons_self
        · exact .inr (List.mem_cons_of_mem _ e)
    · rename_i c
      obtain ⟨h1, h2, h3⟩ := minI_le xs m
      refine ⟨h1, fun y hy => ?_, ?_⟩
      · rcases List.mem_cons.mp hy with e | hy
        · omega
        · exact h2 y hy
      · rcases h3 with e | e
        · exact .inl e
        · exact .inr (List.mem_cons_of_mem _ e)
theorem fn_max1 (hc : X.calm = true) : CallR X (.builtin "max") (rFn G max1F) := by
  rintro pins s σ H xs us Q I rs ⟨F, r, h, R, ws, o, wi, q, e, k⟩
  unfold max1F at e
  split at e
  · split at e
    · rename_i x l el
      cases e
      obtain ⟨v, rfl, va⟩ := q.one
      obtain ⟨p, us, e1, h1, q1⟩ := va.list
      have eu := q1.ints el
      subst eu
      obtain ⟨g1, g2, g3⟩ := maxI_ge l x
      refine cr_max hc pins s σ H _ _ Q I rs ⟨p, x :: l, by rw [e1], .of h1, by simp, fun m hm hy => ?_⟩
      have em : m = maxI x l := by
        have a1 : m ≤ maxI x l := by
          rcases List.mem_cons.mp hm with e | e
          · omega
          · exact g2 m e
        have a2 : maxI x l ≤ m := by
          rcases g3 with e | e
          · rw [e]; exact hy x List.mem_cons_self
          · exact hy _ (List.mem_cons_of_mem _ e)
        omega
      subst em
      exact k.sh wi (.int _)
    · cases e
  · split at e
    · rename_i x l el
      cases e
      obtain ⟨v, rfl, va⟩ := q.one
      obtain ⟨p, us, e1, h1, q1⟩ := va.tuple
      have eu := q1.ints el
      subst eu
      obtain ⟨g1, g2, g3⟩ := maxI_ge l x
      refine cr_maxT hc pins s σ H _ _ Q I rs ⟨p, x :: l, by rw [e1], .of h1, by simp, fun m hm hy => ?_⟩
      have em : m = maxI x l := by
        have a1 : m ≤ maxI x l := by
          rcases List.mem_cons.mp hm with e | e
          · omega
          · exact g2 m e
        have a2 : maxI x l ≤ m := by
          rcases g3 with e | e
          · rw [e]; exact hy x List.mem_cons_self
          · exact hy _ (List.mem_cons_of_mem _ e)
        omega
      subst em
      exact k.sh wi (.int _)
    · cases e
  · cases e
theorem fn_min1 (hc : X.calm = true) : CallR X (.builtin "min") (rFn G min1F) := by
  rintro pins s σ H xs us Q I rs ⟨F, r, h, R, ws, o, wi, q, e, k⟩
  unfold min1F at e
  split at e
  · split at e
    · rename_i x l el
      cases e
      obtain ⟨v, rfl, va⟩ := q.one
      obtain ⟨p, us, e1, h1, q1⟩ := va.list
      have eu := q1.ints el
      subst eu
      obtain ⟨g1, g2, g3⟩ := minI_le l x
      refine cr_min hc pins s σ H _ _ Q I rs ⟨p, x :: l, by rw [e1], .of h1, by simp, fun m hm hy => ?_⟩
      have em : m = minI x l := by
        have a1 : minI x l ≤ m := by
          rcases List.mem_cons.mp hm with e | e
          · omega
          · exact g2 m e
        have a2 : m ≤ minI x l := by
          rcases g3 with e | e
          · rw [e]; exact hy x List.mem_cons_self
          · exact hy _ (List.mem_cons_of_mem _ e)
        omega
      subst em
      exact k.sh wi (.int _)
    · cases e
  · split at e
    · rename_i x l el
      cases e
      obtain ⟨v, rfl, va⟩ := q.one
      obtain ⟨p, us, e1, h1, q1⟩ := va.tuple
      have eu := q1.ints el
      subst eu
      obtain ⟨g1, g2, g3⟩ := minI_le l x
      refine cr_minT hc pins s σ H _ _ Q I rs ⟨p, x :: l, by rw [e1], .of h1, by simp, fun m hm hy => ?_⟩
      have em : m = minI x l := by
        have a1 : minI x l ≤ m := by
          rcases List.mem_cons.mp hm with e | e
          · omega
          · exact g2 m e
        have a2 : m ≤ minI x l := by
          rcases g3 with e | e
          · rw [e]; exact hy x List.mem_cons_self
          · exact hy _ (List.mem_cons_of_mem _ e)
        omega
      subst em
      exact k.sh wi (.int _)
    · cases e
  · cases e
theorem fn_max2 (hc : X.calm = true) : CallR X (.builtin "max") (rFn G max2F) := by
  rintro pins s σ H xs us Q I rs ⟨F, r, h, R, ws, o, wi, q, e, k⟩
  unfold max2F at e
  split at e
  · cases e
    obtain ⟨v, u, rfl, va, vb⟩ := q.two
    exact call_max2 hc pins s σ H _ _ Q I rs ⟨_, _, by rw [va.int, vb.int], k.sh wi (.int _)⟩
  · cases e
theorem fn_min2 (hc : X.calm = true) : CallR X (.builtin "min") (rFn G min2F) := by
  rintro pins s σ H xs us Q I rs ⟨F, r, h, R, ws, o, wi, q, e, k⟩
  unfold min2F at e
  split at e
  · cases e
    obtain ⟨v, u, rfl, va, vb⟩ := q.two
    exact call_min2 hc pins s σ H _ _ Q I rs ⟨_, _, by rw [va.int, vb.int], k.sh wi (.int _)⟩
  · cases e
theorem fn_abs : CallR X (.builtin "abs") (rFn G absF) := by
  rintro pins s σ H xs us Q I rs ⟨F, r, h, R, ws, o, wi, q, e, k⟩
  unfold absF at e
  split at e
  · cases e
    obtain ⟨v, rfl, va⟩ := q.one
    exact call_abs pins s σ H _ _ Q I rs ⟨_, by rw [va.int], k.sh wi (.int _)⟩
  · cases e
theorem fn_int : CallR X (.type "int") (rFn G intF) := by
  rintro pins s σ H xs us Q I rs ⟨F, r, h, R, ws, o, wi, q, e, k⟩
  unfold intF at e
  split at e
  · cases e
    obtain ⟨v, rfl, va⟩ := q.one
    exact call_int1 pins s σ H _ _ Q I rs (.inl ⟨_, by rw [va.int], k.sh wi (.int _)⟩)
  · cases e
    obtain ⟨v, rfl, va⟩ := q.one
    exact call_int1 pins s σ H _ _ Q I rs (.inr ⟨_, by rw [va.bl], k.sh wi (.int _)⟩)
  · cases e
theorem fn_all (hc : X.calm = true) : CallR X (.builtin "all") (rFn G allF) := by
  rintro pins s σ H xs us Q I rs ⟨F, r, h, R, ws, o, wi, q, e, k⟩
  unfold allF at e
  split at e
  · split at e
    · rename_i l el
      cases e
      obtain ⟨v, rfl, va⟩ := q.one
      obtain ⟨p, us, e1, h1, q1⟩ := va.list
      have eu := q1.bls el
      subst eu
      exact cr_all hc pins s σ H _ _ Q I rs ⟨p, l, by rw [e1], .of h1, k.sh wi (.bl _)⟩
    · cases e
  · cases e
theorem fn_any (hc : X.calm = true) : CallR X (.builtin "any") (rFn G anyF) := by
  rintro pins s σ H xs us Q I rs ⟨F, r, h, R, ws, o, wi, q, e, k⟩
  unfold anyF at e
  split at e
  · split at e
    · rename_i l el
      cases e
      obtain ⟨v, rfl, va⟩ := q.one
      obtain ⟨p, us, e1, h1, q1⟩ := va.list
      have eu := q1.bls el
      subst eu
      exact cr_any hc pins s σ H _ _ Q I rs ⟨p, l, by rw [e1], .of h1, k.sh wi (.bl _)⟩
    · cases e
  · cases e
end
end Mini
set_option Elab.async false
set_option linter.all false
set_option maxRecDepth 100000
set_option maxHeartbeats 1000000
/-! Mini: a tuple read backward; isinstance; the number of unlike ints; index. -/
namespace Mini
open PySem L2 PyProof.Rows
section
variable {prog : Program} {w : World} {A : Around} {E : Value → Shared → Prop} {s : Shared}
theorem backAdjust (n : Nat) : Builtin.Slice.sliceAdjust none none (-1) (n : Int) = ((n : Int) - 1, -1) := by
  simp [Builtin.Slice.sliceAdjust]
theorem backPlaces (n : Nat) : Builtin.Slice.slicePlaces ((n : Int) - 1) (-1) (-1) = n := by
  unfold Builtin.Slice.slicePlaces
  rw [if_neg (by decide)]
  by_cases h : (n : Int) - 1 > -1
  · rw [if_pos h, show (-(-1) : Int) = 1 from rfl, Int.ediv_one]
    omega
  · rw [if_neg h]
    omega
theorem backApplied {sl : Addr} {vl vu vs : Value} {n : Nat} {Q : Int × Int × Nat → Shared → Prop} (hs : s.heap.IsSliceOf sl vl vu vs) (pl : IsPart vl none) (pu : IsPart vu none) (ps : IsPart vs (some (-1))) (h : Q ((n : Int) - 1, -1, n) s) :
    wpAny (model prog w) A (Builtin.Slice.sliceApplied (.ref sl) (pure (n : Int))) Q E s := by
  obtain ⟨ob, e1, e2, e3⟩ := id hs
  unfold Builtin.Slice.sliceApplied Builtin.Slice.sliceFields
  refine wpAny_bind (wpAny_bind (wpAny_field e1 e3 (x := vl) rfl (wpAny_bind (wpAny_field e1 e3 (x := vu) rfl
    (wpAny_bind (wpAny_field e1 e3 (x := vs) rfl (wpAny_pure ?_)))))))
  refine wpAny_bind (HT.slicePart_ ps ?_)
  show wpAny _ _ (if ((-1 : Int) == 0) = true then _ else _) _ _ s
  rw [if_neg (show ¬ ((-1 : Int) == 0) = true by decide)]
  refine wpAny_bind (HT.slicePart_ pl (wpAny_bind (HT.slicePart_ pu (wpAny_bind (wpAny_pure ?_)))))
  show wpAny _ _ (match Builtin.Slice.sliceAdjust none none (-1) (n : Int) with | (a, b) => pure (a, (-1 : Int), Builtin.Slice.slicePlaces a b (-1))) _ _ s
  rw [backAdjust]
  show wpAny _ _ (pure ((n : Int) - 1, (-1 : Int), Builtin.Slice.slicePlaces ((n : Int) - 1) (-1) (-1))) _ _ s
  rw [backPlaces]
  exact wpAny_pure h
theorem fm_some {α β : Type} (f : α → Option β) (g : α → β) : ∀ (l : List α), (∀ k ∈ l, f k = some (g k)) → l.filterMap f = l.map g
  | [], _ => rfl
  | a :: l, h => by
    rw [List.filterMap_cons, h a List.mem_cons_self, List.map_cons, fm_some f g l fun k hk => h k (List.mem_cons_of_mem _ hk)]
theorem backPick (xs : Array Value) : ((List.range xs.size).filterMap fun (k : Nat) => xs[((xs.size : Int) - 1 + (k : Int) * -1).toNat]?) = xs.toList.reverse := by
  apply List.ext_getElem?
  intro i
  have e : ((List.range xs.size).filterMap fun (k : Nat) => xs[((xs.size : Int) - 1 + (k : Int) * -1).toNat]?) = (List.range xs.size).map fun k => xs.toList.reverse.getD k default := by
    refine fm_some _ _ _ fun k hk => ?_
    have hk := List.mem_range.mp hk
    have e1 : ((xs.size : Int) - 1 + (k : Int) * -1).toNat = xs.size - 1 - k := by omega
    rw [e1]
    have h2 : k < xs.toList.reverse.length := by simpa using hk
    simp only [List.getD_eq_getElem?_getD, List.getElem?_eq_getElem h2, Option.getD_some]
    rw [List.getElem_reverse]
    simp
  rw [e]
  by_cases hi : i < xs.size
  · have h2 : i < xs.toList.reverse.length := by simpa using hi
    rw [List.getElem?_map, List.getElem?_range hi, List.getElem?_eq_getElem h2]
    simp [List.getD_eq_getElem?_getD, List.getElem?_eq_getElem h2]
  · rw [List.getElem?_eq_none (by simpa using hi), List.getElem?_eq_none (by simpa using hi)]
theorem getItem_back {t sl : Addr} {items : Array Value} {vl vu vs : Value} {Q : Value → Shared → Prop} (ht : IsTup s.heap t items) (hs : s.heap.IsSliceOf sl vl vu vs) (pl : IsPart vl none) (pu : IsPart vu none) (ps : IsPart vs (some (-1)))
    (h : Q (.ref s.heap.objs.size) { s with heap := s.heap.push { cls := .type "tuple", data := .seq items.toList.reverse.toArray } }) (hz : items.size ≤ sizeLine) : wpAny (model prog w) A (getItem (.ref t) (.ref sl)) Q E s := by
  have hsz : sizeOk (.seq items.toList.reverse.toArray) := by
    show items.toList.reverse.toArray.size ≤ sizeLine
    simpa using hz
  obtain ⟨ob, e1, e2, e3⟩ := id hs
  have isSl : s.TypeIs (.ref sl) "slice" := ⟨ob, e1, e2⟩
  unfold getItem
  try with_reducible refine wpAny_holding ?_
  first | refine wpAny_bind (wpAny_pure ?_) | skip
  refine wpAny_bind (wpAny_sequenceKey ht.typeIs (show _ by decide) ?_)
  refine wpAny_bind (wpAny_callSpecial?_slot (name := Str.ofString "__getitem__") ht.typeIs slot_tuple_getitem (wpAny_call_entry slot_tuple_getitem ht.typeIs entry_tuple_getitem ?_ (args_tuple_getitem _ _)))
  show wpAny _ _ (Builtin.Tuple.tupleItemsOf (.ref t) >>= _) _ _ s
  refine wpAny_bind (tupleItemsOf_ ht (wpAny_bind (wpAny_typeOf isSl ?_)))
  rw [if_pos (show _ by decide)]
  refine wpAny_bind (backApplied hs pl pu ps ?_)
  show wpAny _ _ (if (((items.size : Int) - 1) == 0 && (-1 : Int) == 1 && items.size == items.size) = true then _ else _) _ _ s
  rw [if_neg (show ¬ (((items.size : Int) - 1) == 0 && (-1 : Int) == 1 && items.size == items.size) = true by simp), backPick]
  first
    | exact wpAny_bind (m := Builtin.Tuple.tupleExact _) (wpAny_newObj_type (wpAny_pure ⟨_, rfl, wpAny_pure h⟩) hsz)
    | exact wpAny_bind (m := Builtin.Tuple.tupleExact _) (wpAny_newObj_type (wpAny_bind (wpAny_pure (wpAny_pure ⟨_, rfl, wpAny_pure h⟩))) hsz)
    | exact wpAny_bind (wpAny_bind (m := Builtin.Tuple.tupleExact _) (wpAny_newObj_type (wpAny_pure (wpAny_pure ⟨_, rfl, wpAny_pure h⟩)) hsz))
    | exact wpAny_bind (wpAny_bind (m := Builtin.Tuple.tupleExact _) (wpAny_newObj_type (wpAny_pure ⟨_, rfl, wpAny_pure h⟩) hsz))
end
section
variable {X : Cx}
def tRevT (te : TE) : TE := fun σ H Q => te σ H fun x H1 => ∃ a xs, x = .ref a ∧ H1 a = some (.tup xs) ∧ ∀ p, H1 p = none → Q (.ref p) (upd H1 p (.tup xs.reverse))
theorem pe_revT {e : Expr} {te : TE} {k : Nat} {p1 p2 p3 pos : Pos} (he : PE X e te) : PE X (.Subscript e (.Slice none none (some (.UnaryOp .USub (.Constant (.int 1) k p1) p2)) p3) pos) (tRevT te) := by
  refine ⟨fun pins s σ H Q I h => Subscript_ (thn (he.run pins s σ H _ I h) fun v s1 ⟨x, H1, I1, r1, a, xs, ex, hx, q⟩ => ?_)⟩
  subst ex
  cases r1
  have st : L2.PO X (some (.UnaryOp .USub (.Constant (.int 1) k p1) p2)) (tPart (tUn (rU fun i => .int (-i)) (tC (.int 1)))) := po_some (pe_un un_neg pe_int)
  refine wpAny_Slice (thn (po_none.run pins s1 σ H1 (fun o K => o = none ∧ K = H1) I1 ⟨rfl, rfl⟩) fun vl s2 ⟨l, H2, I2, pl, el, e2⟩ => ?_)
  subst el e2
  refine thn (po_none.run pins s2 σ H2 (fun o K => o = none ∧ K = H2) I2 ⟨rfl, rfl⟩) fun vu s3 ⟨u, H3, I3, pu, eu, e3⟩ => ?_
  subst eu e3
  refine thn (st.run pins s3 σ H3 (fun o K => o = some (-1) ∧ K = H3) I3 ⟨1, rfl, -1, rfl, rfl, rfl⟩) fun vs s4 ⟨o, H4, I4, ps, eo, e4⟩ => ?_
  subst eo e4
  have I5 : Inv X pins σ H4 { s4 with heap := s4.heap.push { cls := .type "slice", data := .fields #[vl, vu, vs] } } := I4.kept (t' := s4.toks) fun b ob q => Heap.get?_push_of_some _ q
  obtain ⟨its, r, ht, hz⟩ := I5.tuple (.of hx)
  have hlen := r.length
  show wpAny (model X.prog X.w) X.A (subscriptTail e (.Slice none none (some (.UnaryOp .USub (.Constant (.int 1) k p1) p2)) p3) (.ref a) (.ref s4.heap.objs.size)) (EP X pins σ Q) X.xe { s4 with heap := s4.heap.push { cls := .type "slice", data := .fields #[vl, vu, vs] } }
  refine tail_any (ops := [.ref a, .ref s4.heap.objs.size]) ht.typeIs PyProof.Rows.slot_tuple_getitem.lookup ?_ (show _ by with_unfolding_all rfl)
  refine getItem_back ht (Heap.IsSliceOf.new _ vl vu vs) pl pu ps ?_ (by rw [List.size_toArray]; omega)
  have hf := I5.hok.fresh (Nat.le_refl _)
  refine ⟨.ref _, _, I5.laid (t' := s4.toks) (o := .tup xs.reverse) (fun b ob q => Heap.get?_push_of_some _ q) (Nat.le_refl _) ?_, rfl, q _ hf⟩
  exact ⟨by rw [List.length_reverse]; exact hz, _, r.reverse, ⟨_, Heap.get?_push_size _ rfl, rfl, _, rfl⟩⟩
end
/-! ### isinstance -/
def tyN : W → String
  | .non => "NoneType" | .bl _ => "bool" | .int _ => "int" | .str _ => "str" | .lst _ => "list" | .tup _ => "tuple" | .dic _ _ _ => "dict" | _ => ""
def tnm : Ty → String
  | .int => "int" | .bool => "bool" | .str => "str" | .list => "list" | .tuple => "tuple" | .dict => "dict"
section
variable {G : GI} {F : Fz} {r : List Addr} {H : Hp} {h : HH} {R : List Addr} {Q : VK} {X : Cx}
theorem VW.ty {w : W} {v : V} (K : PySem.W.Frag) (q : VW G F r H w v) (ok : tyOk w = true) : TyX K H v (.type (tyN w)) := by
  cases q with
  | w q => cases q with
    | non => exact .base .non
    | bl b => exact .base (.bl b)
    | int i => exact .base (.int i)
    | str s => exact .base (.str _)
    | tup e _ => exact .base (.tup e)
    | lst _ e _ => exact .base (.lst e)
    | dicK _ e _ _ => exact .base (.dK e)
    | dicT _ e _ _ => exact .base (.dT e)
    | ks _ _ => cases ok
    | hp _ => cases ok
    | fn _ => cases ok
    | opq _ _ => cases ok
    | clo _ _ _ _ _ _ => cases ok
  | lst e _ => exact .base (.lst e)
  | dicK e _ _ => exact .base (.dK e)
  | dicT e _ _ => exact .base (.dT e)
theorem kit_w (K : PySem.W.Frag) {w : W} (ok : tyOk w = true) (t : Ty) : PySem.W.kitOne K (.type (tyN w)) (.type (tnm t)) = some (isTy t w) := by
  cases w <;> first | (cases ok; done) | skip
  all_goals (cases t <;> exact kit_ty (by kernel_rfl))
theorem kits_w (K : PySem.W.Frag) {w : W} (ok : tyOk w = true) : ∀ ts : List Ty, PySem.W.kitAny K (.type (tyN w)) (ts.map fun t => .type (tnm t)) = some (ts.any fun t => isTy t w)
  | [] => rfl
  | t :: ts => by
    rw [List.map_cons, List.any_cons]
    refine kitAny_cons (kit_w K ok t) (fun e => ?_) (fun e => ?_)
    · rw [kits_w K ok ts, e, Bool.false_or]
    · rw [e, Bool.true_or]
variable (G) in
def rIs1 (t : Ty) : List V → Hp → VK → Prop := fun vs H Q => ∃ v, vs = [v, .ty (tnm t)] ∧ ∃ F r h R w b, WI G F r H h R ∧ VW G F r H w v ∧ isTyW [t] w = some b ∧ Q (.bl b) H
theorem fn_is1 (t : Ty) : CallR X (.builtin "isinstance") (rIs1 G t) := by
  rintro pins s σ H xs us Q I rs ⟨v, rfl, F, r, h, R, w, b, wi, q, e, k⟩
  unfold isTyW at e
  split at e
  · rename_i ok
    cases e
    refine call_isi pins s σ H _ _ Q I rs ⟨v, _, _, _, _, rfl, .ty _, q.ty X.K ok, kit_w X.K ok t, ?_⟩
    have e2 : ([t].any fun t => isTy t w) = isTy t w := by simp
    rw [e2] at k
    exact k
  · cases e
variable (G) in
def rIsM (ts : List Ty) : List V → Hp → VK → Prop := fun vs H Q => ∃ v p, vs = [v, .ref p] ∧ H p = some (.tup (ts.map fun t => V.ty (tnm t))) ∧ ∃ F r h R w b, WI G F r H h R ∧ VW G F r H w v ∧ isTyW ts w = some b ∧ Q (.bl b) H
theorem clsV_all : ∀ ts : List Ty, Paired ClsV (ts.map fun t => V.ty (tnm t)) (ts.map fun t => Value.type (tnm t))
  | [] => .nil
  | t :: ts => .cons (.ty _) (clsV_all ts)
theorem fn_isM (ts : List Ty) : CallR X (.builtin "isinstance") (rIsM G ts) := by
  rintro pins s σ H xs us Q I rs ⟨v, p, rfl, hp, F, r, h, R, w, b, wi, q, e, k⟩
  unfold isTyW at e
  split at e
  · rename_i ok
    cases e
    exact call_isiT pins s σ H _ _ Q I rs ⟨v, p, _, _, _, _, rfl, hp, clsV_all ts, q.ty X.K ok, kits_w X.K ok ts, k⟩
  · cases e
/-! ### index -/
theorem findW_ok {x : W} {v : V} (p : VW G F r H x v) (f : Mini.flat1 x = true) : ∀ {ys : List W} {us : List V} {n j : Nat}, RWs G F r H ys us → ys.all Mini.flat1 = true → findW x ys n = some j →
    ∃ z, n ≤ j ∧ us[j - n]? = some z ∧ eqV z v = true ∧ ∀ m z', m < j - n → us[m]? = some z' → eqV z' v = false
  | _, _, _, _, .nil, _, e => by cases e
  | _, _, n, j, .cons (x := y) (v := u) (xs := ys) (vs := us) a b, g, e => by
    rw [List.all_cons, Bool.and_eq_true] at g
    have e1 := eqW_flat a p g.1 f
    unfold findW at e
    by_cases c : eqW y x = true
    · rw [if_pos c] at e
      cases e
      exact ⟨u, Nat.le_refl _, by simp, by rw [e1]; exact c, fun m z' hm => by omega⟩
    · rw [if_neg c] at e
      obtain ⟨z, h1, h2, h3, h4⟩ := findW_ok p f b g.2 e
      have ej : j - n = (j - (n + 1)) + 1 := by omega
      refine ⟨z, by omega, by rw [ej]; simpa using h2, h3, fun m z' hm hz => ?_⟩
      cases m with
      | zero =>
        simp only [List.getElem?_cons_zero, Option.some.injEq] at hz
        subst hz
        rw [e1]
        simpa using c
      | succ m => exact h4 m z' (by omega) (by simpa using hz)
variable (G) in
def rIdx : V → List V → Hp → VK → Prop := fun v vs H Q => ∃ u, vs = [u] ∧ ∃ F r h R xs y j, WI G F r H h R ∧ VW G F r H (.lst xs) v ∧ VW G F r H y u ∧ indexW (.lst xs) y = some (.int j) ∧ Q (.int j) H
theorem mt_idx : MtR X "list.index" (rIdx G) := by
  rintro pins s σ H x vs v us Q I rx rs ⟨u, rfl, F, r, h, R, xs, y, j, wi, va, vb, e, k⟩
  unfold indexW at e
  simp only at e
  split at e
  · rename_i hb
    rw [Bool.and_eq_true] at hb
    split at e
    · rename_i n en
      cases e
      obtain ⟨p, ws, e1, h1, q1⟩ := va.list
      obtain ⟨z, h2, h3, h4, h5⟩ := findW_ok vb hb.1 q1 hb.2 en
      exact mt_index pins s σ H x _ v us Q I rx rs ⟨p, ws, u, n, z, e1, rfl, .of h1, vb.flat1 hb.1, q1.flat1 hb.2, by simpa using h3, h4, fun m z' hm hz => h5 m z' (by simpa using hm) hz, k⟩
    · cases e
  · cases e
end
/-! ### how many unlike ints -/
theorem memI_iff (x : Int) : ∀ l : List Int, memI x l = true ↔ x ∈ l
  | [] => by simp [memI]
  | y :: ys => by
    unfold memI
    split
    · rename_i c
      simp [c]
    · rename_i c
      rw [memI_iff x ys, List.mem_cons]
      exact ⟨.inr, fun z => z.resolve_left c⟩
theorem unI_mem (x : Int) : ∀ l : List Int, x ∈ unI l ↔ x ∈ l
  | [] => by simp [unI]
  | y :: ys => by
    unfold unI
    split
    · rename_i c
      rw [unI_mem x ys, List.mem_cons]
      exact ⟨.inr, fun z => z.elim (fun e => by rw [e]; exact (memI_iff y ys).mp c) id⟩
    · rw [List.mem_cons, List.mem_cons, unI_mem x ys]
theorem unI_nodup : ∀ l : List Int, (unI l).Nodup
  | [] => List.nodup_nil
  | y :: ys => by
    unfold unI
    split
    · exact unI_nodup ys
    · rename_i c
      refine List.nodup_cons.mpr ⟨fun z => c ?_, unI_nodup ys⟩
      rw [memI_iff]
      exact (unI_mem y ys).mp z
theorem len_same {a b : List Int} (ha : a.Nodup) (hb : b.Nodup) (h : ∀ x, x ∈ a ↔ x ∈ b) : a.length = b.length :=
  ((List.perm_ext_iff_of_nodup ha hb).mpr h).length_eq
theorem met_mem (val : Nat → Int) (x : Int) : ∀ n, x ∈ PyProof.Rows.firstMet val n ↔ ∃ i, i < n ∧ val i = x
  | 0 => by rw [PyProof.Rows.firstMet_zero]; simp
  | n + 1 => by
    rw [PyProof.Rows.firstMet_succ]
    unfold PyProof.Rows.step_dedup
    have ih := met_mem val x n
    split
    · rename_i c
      rw [ih]
      constructor
      · rintro ⟨i, h1, h2⟩
        exact ⟨i, by omega, h2⟩
      · rintro ⟨i, h1, h2⟩
        by_cases e : i = n
        · subst e
          rw [List.any_eq_true] at c
          obtain ⟨y, hy, ey⟩ := c
          have ey : y = val i := by simpa using ey
          have := (met_mem val y i).mp hy
          obtain ⟨j, h3, h4⟩ := this
          exact ⟨j, h3, by rw [h4, ey, h2]⟩
        · exact ⟨i, by omega, h2⟩
    · rw [List.mem_append, ih]
      constructor
      · rintro (⟨i, h1, h2⟩ | z)
        · exact ⟨i, by omega, h2⟩
        · exact ⟨n, by omega, by simpa using (List.mem_singleton.mp z).symm⟩
      · rintro ⟨i, h1, h2⟩
        by_cases e : i = n
        · subst e
          exact .inr (by simp [h2])
        · exact .inl ⟨i, by omega, h2⟩
theorem met_nodup (val : Nat → Int) : ∀ n, (PyProof.Rows.firstMet val n).Nodup
  | 0 => by rw [PyProof.Rows.firstMet_zero]; exact List.nodup_nil
  | n + 1 => by
    rw [PyProof.Rows.firstMet_succ]
    unfold PyProof.Rows.step_dedup
    split
    · exact met_nodup val n
    · rename_i c
      refine List.nodup_append.mpr ⟨met_nodup val n, by simp, fun a ha b hb e => c ?_⟩
      rw [List.mem_singleton] at hb
      rw [List.any_eq_true]
      exact ⟨a, ha, by rw [e, hb]; simp⟩
theorem met_len (l : List Int) : (PyProof.Rows.firstMet (fun i => l.getD i 0) l.length).length = (unI l).length := by
  refine len_same (met_nodup _ _) (unI_nodup l) fun x => ?_
  rw [met_mem, unI_mem]
  constructor
  · rintro ⟨i, h1, h2⟩
    rw [← h2, List.getD_eq_getElem?_getD, List.getElem?_eq_getElem h1]
    exact List.getElem_mem h1
  · intro hx
    obtain ⟨i, h1, h2⟩ := List.getElem_of_mem hx
    exact ⟨i, h1, by rw [List.getD_eq_getElem?_getD, List.getElem?_eq_getElem h1, h2]; rfl⟩
end Mini
set_option Elab.async false
set_option linter.all false
set_option maxRecDepth 100000
set_option maxHeartbeats 1000000
/-! Mini: a tuple's index. -/
namespace Mini
open PySem L2 PySem.Spec PyProof.Rows
section
variable {G : GI} {X : Cx}
theorem mt_indexT : MtR X "tuple.index" (fun x xs H Q => ∃ p ys y j z, x = .ref p ∧ xs = [y] ∧ SqT X.K H p ys ∧ flatV y = true ∧ ys.all flatV = true ∧ ys[j]? = some z ∧ eqV z y = true ∧ (∀ m z', m < j → ys[m]? = some z' → eqV z' y = false) ∧ Q (.int (j : Nat)) H) := by
  intro pins s σ H x xs v us Q I rx rxs h
  obtain ⟨p, ys, y, j, z, rfl, rfl, hq, fy, fys, hz, hzj, hno, q⟩ := h
  cases rx
  cases rxs with
  | cons ry rt =>
    rename_i uy ut
    cases rt
    obtain ⟨its, rv, pl, hsz⟩ := I.tuple hq
    obtain ⟨⟨cls, dd, dt, sl⟩, ho, hc, n, hd⟩ := pl
    simp only at hc hd
    subst hc
    subst hd
    obtain ⟨u, hu, ru⟩ := rv.get hz
    obtain ⟨hjl, hje⟩ := List.getElem?_eq_some_iff.mp hu
    have hvl := rv.length
    have hj : j < its.toArray.size := by simpa using hjl
    refine call_meets PySem.F.slot_tuple_index ⟨_, ho, rfl⟩ PySem.F.entry_tuple_index (PySem.F.args_tuple_index_2 _ _) (TI.tuple_indexAt p its.toArray n dd sl uy (eqU y) j hj ?_ ?_)
      ⟨ho, fun u' hu' => mem_eqAt ry fy rv fys u' (by simpa using hu'), ⟨.int (j : Nat), H, I.tok _, ⟨_, rfl⟩, q⟩⟩
    · have e1 : its.toArray[j] = u := by simpa using hje
      rw [e1, eqU_of ru (flat_at fys hz)]
      exact hzj
    · intro m hm hmj
      have hml : m < its.length := by simpa using hm
      have hmy : m < ys.length := by omega
      have hy' : ys[m]? = some ys[m] := List.getElem?_eq_getElem hmy
      obtain ⟨u2, hu2, ru2⟩ := rv.get hy'
      obtain ⟨_, hme⟩ := List.getElem?_eq_some_iff.mp hu2
      have e1 : its.toArray[m] = u2 := by simpa using hme
      rw [e1, eqU_of ru2 (flat_at fys hy')]
      exact hno m _ hmj hy'
variable {F F1 : Fz} {r : List Addr}
variable (G) in
def rIdxT : V → List V → Hp → VK → Prop := fun v vs H Q => ∃ u, vs = [u] ∧ ∃ F r h R xs y j, WI G F r H h R ∧ VW G F r H (.tup xs) v ∧ VW G F r H y u ∧ indexW (.tup xs) y = some (.int j) ∧ Q (.int j) H
theorem mt_idxT : MtR X "tuple.index" (rIdxT G) := by
  rintro pins s σ H x vs v us Q I rx rs ⟨u, rfl, F, r, h, R, xs, y, j, wi, va, vb, e, k⟩
  unfold indexW at e
  simp only at e
  split at e
  · rename_i hb
    rw [Bool.and_eq_true] at hb
    split at e
    · rename_i n en
      cases e
      obtain ⟨p, ws, e1, h1, q1⟩ := va.tuple
      obtain ⟨z, h2, h3, h4, h5⟩ := findW_ok vb hb.1 q1 hb.2 en
      exact mt_indexT pins s σ H x _ v us Q I rx rs ⟨p, ws, u, n, z, e1, rfl, .of h1, vb.flat1 hb.1, q1.flat1 hb.2, by simpa using h3, h4, fun m z' hm hz => h5 m z' (by simpa using hm) hz, k⟩
    · cases e
  · cases e
end
end Mini
set_option Elab.async false
set_option linter.all false
set_option maxRecDepth 100000
set_option maxHeartbeats 1000000
/-! Mini: len(set(..)). -/
namespace Mini
open PySem L2 PyProof.Rows
section
variable {G : GI} {F : Fz} {r : List Addr} {H : Hp} {h : HH} {R : List Addr} {Q : VK} {X : Cx}
variable (G) in
def tLS (ta : TE) : TE := fun σ H Q => ta σ H fun x H1 => ∃ F r h R w o, WI G F r H1 h R ∧ VW G F r H1 w x ∧ lensetF [w] = some o ∧ Fin G F r H1 h R Q o
theorem pe_lenset {a : Expr} {ta : TE} {p p2 q pos : Pos} (hg : Gl X "len") (hm : X.mg "len" = none) (hg2 : Gl X "set") (hm2 : X.mg "set" = none) (ha : PE X a ta) (hc : X.calm = true)
    (na : starEach [a] X.env = (false, eval a X.env) :: starEach [] X.env) : PE X (.Call (.Name "len" p) [.Call (.Name "set" p2) [a] [] q] [] pos) (tLS G ta) := by
  refine ⟨fun pins s σ H Q I hq => Call_ (ld_blt I hg hm boot_len (callWith_builtin1 (args_cons ?_ rfl) rfl rfl))⟩
  refine Call_ (ld_blt I hg2 hm2 boot_set (callWith_type1 (args_cons (thn (ha.run pins s σ H _ I hq) fun v s1 ⟨x, H1, I1, r1, F, r, h, R, w, o, wi, va, e, k⟩ => args_nil ?_) na) na rfl))
  have hd := I1.ok.hd hc
  unfold lensetF at e
  split at e
  · rename_i xs ex
    cases ex
    split at e
    · rename_i l el
      split at e
      · rename_i hl
        cases e
        obtain ⟨b, us, e1, h1, q1⟩ := va.list
        subst e1
        cases r1
        have eu := q1.ints el
        subst eu
        obtain ⟨its, rv, pl, hz⟩ := I1.list (.of h1)
        have hn : its.toArray.size = l.length := by rw [List.size_toArray, ← rv.length, List.length_map]
        refine call_set_list hd pl.isList (by simpa using rv.ints) (by rw [hn]; unfold scanBound; omega) fun h' tk hS hk => args_nil ?_
        rw [hn] at hS
        obtain ⟨ob, es, ep, t, ho, hex, hdt, _, _, _, hf, hsz⟩ := hS
        rw [met_len] at hsz
        have I2 : Inv X pins σ H1 { s1 with heap := h', toks := tk } := I1.kept fun b o e => hk b o (Heap.lt_size e) e
        have hle : (unI l).length ≤ 4000 := by
          rw [← met_len]
          exact Nat.le_trans (firstMet_length_le _ _) hl
        refine call_len_set ho hex hdt hf (by omega) ⟨.int (unI l).length, H1, I2.tok _, ⟨_, by rw [hsz]⟩, k.sh wi (.int _)⟩
      · cases e
    · cases e
  · rename_i xs ex
    cases ex
    split at e
    · rename_i l el
      split at e
      · rename_i hl
        cases e
        obtain ⟨b, us, e1, h1, q1⟩ := va.tuple
        subst e1
        cases r1
        have eu := q1.ints el
        subst eu
        obtain ⟨its, rv, pt, hz⟩ := I1.tuple (.of h1)
        refine call_set_tupI l hd (show s1.heap.IsTuple b its.toArray from pt) (by simpa using rv.ints) (by unfold scanBound; omega) fun h' tk c R1 hcn kk => args_nil ?_
        obtain ⟨ob, es, ep, t, ho, hex, hdt, g, nd, hm2, hb, hf, hn, _, _⟩ := R1
        have hlen : es.size = (unI l).length := by
          have z := len_same nd (unI_nodup l) fun x => by
            rw [← hm2 x, unI_mem]
            simp
          simpa using z
        have hle : (unI l).length ≤ 4096 := by
          rw [← hlen]
          have hb : es.size < 4096 := hb
          omega
        have I2 : Inv X pins σ H1 { s1 with heap := h', toks := tk } := I1.kept kk
        refine call_len_set ho hex hdt hf (by omega) ⟨.int (unI l).length, H1, I2.tok _, ⟨_, by rw [hlen]⟩, k.sh wi (.int _)⟩
      · cases e
    · cases e
  · cases e
end
end Mini
set_option Elab.async false
set_option linter.all false
set_option maxRecDepth 100000
set_option maxHeartbeats 1000000
/-! Mini: is a Mini term what the text says? -/
namespace Mini
open PySem L2
/-- the names of the text -/
structure Tb where
  fns : List (Str × Nat)
  cls : List (Str × Nat × Str)
  blt : List Str
  pats : List (Nat × List Nat × List Str)
  ps : List (List Str)
  lc : Scope → List Str → Nat → List Nat → Expr → Bool
  spl : List Nat
  kds : List (Str × List Str)
/-- without lambdas -/
def Tb.no (T : Tb) : Tb := { T with lc := fun _ _ _ _ _ => false }
def isVis (sc : Scope) (x : Str) : Bool := match sc.names.lookup x with
  | some .local => true | some .cell => true | some .free => true
  | _ => false
def isLoc (sc : Scope) (x : Str) : Bool := match sc.names.lookup x with
  | some .local => true | some .cell => true
  | _ => false
def isGl (sc : Scope) (x : Str) : Bool := match sc.names.lookup x with
  | some .globalImplicit => true
  | _ => false
def nmOk (x : Str) : Bool := !(x == ("__debug__" : Str)) && !(x == ("__classdict__" : Str)) && !decide (x = ("__name__" : Str))
def cstOk : W → Const → Bool
  | .non, .none => true
  | .bl a, .bool b => a == b
  | .int i, .int j => decide (i = j)
  | .str s, .str x => decide (x = ⟨s.toArray⟩)
  | _, _ => false
def bopOk : BOp → Operator → Bool
  | .add, .Add => true | .sub, .Sub => true | .mul, .Mult => true | .fdiv, .FloorDiv => true | .mod, .Mod => true | .pow, .Pow => true
  | _, _ => false
def copOk : COp → CmpOp → Bool
  | .eq, .Eq => true | .ne, .NotEq => true | .lt, .Lt => true | .le, .LtE => true | .gt, .Gt => true | .ge, .GtE => true | .isin, .In => true | .notin, .NotIn => true
  | _, _ => false
def biNm : BI → Str
  | .len => "len" | .list => "list" | .tuple => "tuple" | .sorted => "sorted" | .sum => "sum" | .max1 => "max" | .min1 => "min" | .max2 => "max" | .min2 => "min"
  | .abs => "abs" | .int => "int" | .all => "all" | .any => "any" | .lenset => "len" | .dictp => "dict"
def slotN (N : List Str) (i : Nat) (x : Str) : Bool := match N[i]? with
  | some y => decide (y = x)
  | none => false
def isGlB (T : Tb) (sc : Scope) (x y : Str) : Bool := decide (x = y) && isGl sc x && T.blt.contains x && nmOk x
def isGlF (T : Tb) (sc : Scope) (x : Str) (f : Nat) : Bool := isGl sc x && decide (T.fns.lookup x = some f) && nmOk x
def isNameI (T : Tb) (N : List Str) (sc : Scope) (i : Nat) : Expr → Bool
  | .Name x _ => slotN N i x && isLoc sc x && nmOk x
  | _ => false
def isNamesI (T : Tb) (N : List Str) (sc : Scope) : List Nat → List Expr → Bool
  | [], [] => true
  | i :: is, e :: es => isNameI T N sc i e && isNamesI T N sc is es
  | _, _ => false
def chkTg (T : Tb) (N : List Str) (sc : Scope) : Tg → Expr → Bool
  | .one i, e => isNameI T N sc i e
  | .many is, .Tuple es _ _ => isNamesI T N sc is es
  | _, _ => false
def isPlainSt (e : Expr) : Bool := match e with
  | .Starred _ _ => false
  | _ => true
def isTyNames (T : Tb) (sc : Scope) : List Ty → List Expr → Bool
  | [], [] => true
  | t :: ts, .Name x _ :: es => isGlB T sc x (tnm t : Str) && isTyNames T sc ts es
  | _, _ => false
def all2 {α β : Type} (f : α → β → Bool) : List α → List β → Bool
  | [], [] => true
  | a :: as, b :: bs => f a b && all2 f as bs
  | _, _ => false
def isOne : Expr → Bool
  | .UnaryOp .USub (.Constant (.int i) _ _) _ => decide (i = 1)
  | _ => false
end Mini
set_option Elab.async false
set_option linter.all false
set_option maxRecDepth 100000
set_option maxHeartbeats 1000000
/-! Mini: operands and expressions, kind by kind. -/
namespace Mini
open PySem L2
inductive F2 {α β : Type} (p : α → β → Prop) : List α → List β → Prop where
  | nil : F2 p [] []
  | cons {a : α} {b : β} {as : List α} {bs : List β} : p a b → F2 p as bs → F2 p (a :: as) (b :: bs)
theorem all2_F2 {α β : Type} {f : α → β → Bool} {p : α → β → Prop} (hp : ∀ a b, f a b = true → p a b) : ∀ {as : List α} {bs : List β}, all2 f as bs = true → F2 p as bs
  | [], [], _ => .nil
  | a :: as, b :: bs, e => by
    simp only [all2, Bool.and_eq_true] at e
    exact .cons (hp _ _ e.1) (all2_F2 hp e.2)
  | [], _ :: _, e => by cases e
  | _ :: _, [], e => by cases e
theorem F2.len {α β : Type} {p : α → β → Prop} : ∀ {as : List α} {bs : List β}, F2 p as bs → as.length = bs.length
  | _, _, .nil => rfl
  | _, _, .cons _ b => by simp [F2.len b]
theorem F2.imp {α β : Type} {p q : α → β → Prop} (h : ∀ a b, p a b → q a b) : ∀ {as : List α} {bs : List β}, F2 p as bs → F2 q as bs
  | _, _, .nil => .nil
  | _, _, .cons a b => .cons (h _ _ a) (F2.imp h b)
section
variable {G : GI} {Wx : WX} {X : Cx} {f : ME → SL → HH → R O} {F F1 : Fz} {r r1 : List Addr} {H H1 : Hp} {R L L1 : List Addr} {σ : L2.St} {s s1 : SL} {h h1 : HH}
theorem Bh.at (b : Bh G F r H R σ F1 r1 H1 L1 s1) (w : WI G F1 r1 H1 h1 (L1 ++ R)) : At G F1 r1 H1 R σ s1 h1 L1 := ⟨b.rs, w⟩
theorem At.here (a : At G F r H R σ s h L) : Bh G F r H R σ F r H L s := ⟨Le.refl _ _ _, a.rs, fun _ _ => rfl⟩
theorem At.weak {R' : List Addr} (a : At G F r H R σ s h L) (w : WI G F r H h (L ++ R')) : At G F r H R' σ s h L := ⟨a.rs, w⟩
/-- what is behind with more kept -/
theorem Bh.less {R1 : List Addr} (b : Bh G F r H (R1 ++ R) σ F1 r1 H1 L1 s1) : Bh G F r H R σ F1 r1 H1 L1 s1 := ⟨b.le, b.rs, fun x hx => b.kp x (List.mem_append_right _ hx)⟩
theorem Bh.share {M : List Addr} (b : Bh G F r H R σ F1 r1 H1 L1 s1) : Bh G F r H R σ (fun a => F1 a ∨ a ∈ M) r1 H1 L1 s1 := ⟨b.le.trans Le.share, b.rs.mono Le.share fun _ _ => rfl, b.kp⟩
theorem RO.shareM {o : O} {v : V} {M : List Addr} (q : RO G F r H o v M) : RW G (fun a => F a ∨ a ∈ M) r H o.toW v := q.share Le.share fun _ hb => ⟨rfl, .inr hb⟩
theorem ROs.shareM {o : List O} {v : List V} {M : List Addr} (q : ROs G F r H o v M) : RWs G (fun a => F a ∨ a ∈ M) r H (O.toWs o) v := q.share Le.share fun _ hb => ⟨rfl, .inr hb⟩
theorem pk_slot (a : At G F r H R σ s h L) {i : Nat} {w : W} (ep : pkS s i = some w) : ∃ v, σ[i]? = some (some v) := by
  have hi : i < s.length := by
    unfold pkS at ep
    split at ep
    all_goals first | exact (List.getElem?_eq_some_iff.mp (by assumption)).1 | cases ep
  obtain ⟨A, M, B, eL, _, _, c⟩ := a.rs.split i hi
  rcases c with ⟨e1, _⟩ | ⟨o, v', e1, e2, ro⟩
  · unfold pkS at ep
    rw [e1] at ep
    cases ep
  · exact ⟨v', e2⟩
theorem RD.mono {d : Dl} {v : V} (l : Le F r H F1 r1 H1) (q : RD G σ F r H d v) : RD G σ F1 r1 H1 d v := by
  cases d with
  | now w => exact RW.mono l q
  | slot i => exact q
theorem pe_d {e : Expr} {m : ME} (he : PE X e (TM G Wx (f m))) (hv : ∀ i, m = .var i → PE X e (tVar i)) : PE X e (TMd G Wx (evD f m)) := by
  refine ⟨fun pins s σ H Q I q => ?_⟩
  obtain ⟨F, r, s0, h0, L, R, a, out⟩ := q
  have common : evD f m s0 h0 = (f m s0 h0).bind (fun o s h => .ok (.now o.toW) s h) → wpAny (model X.prog X.w) X.A (eval e X.env) (EP X pins σ Q) X.xe s := fun ee => by
    rw [ee] at out
    refine he.run pins s σ H Q I ⟨F, r, s0, h0, L, R, a, (Out.cases out).mono (fun o s1 h1 q => ?_) (fun _ _ _ _ z => z)⟩
    intro F' r' H' L' v M b ro wi
    exact q _ r' H' L' v b.share ro.shareM wi.share
  cases m with
  | var i =>
    cases ep : pkS s0 i with
    | none => exact common (by simp [evD, ep])
    | some w =>
      have e : evD f (.var i) s0 h0 = .ok (.slot i) s0 h0 := by simp [evD, ep]
      rw [e] at out
      obtain ⟨v, ev⟩ := pk_slot a ep
      exact (hv i rfl).run pins s σ H Q I ⟨v, ev, out F r H L v a.here ev a.wi⟩
  | _ => exact common rfl
/-! ### two operands -/
theorem w_ev2 {r2 : R2} {a b : ME} {k : W → W → SL → HH → Mini.R O}
    (hk : ∀ σ F r H h R s L x y v u Q, At G F r H R σ s h L → VW G F r H x v → VW G F r H y u → Out (k x y s h) (PO G F r H R σ Q) (EK G Wx F r H R σ) → r2 v u H Q) :
    ∀ σ H Q, TM G Wx (fun s h => ev2 f a b s h k) σ H Q → tOp r2 (TMd G Wx (evD f a)) (TMd G Wx (evD f b)) σ H Q := by
  rintro σ H Q ⟨F, r, s, h, L, R, a0, out⟩
  refine ⟨F, r, s, h, L, R, a0, (Out.cases out).mono (fun d s1 h1 o1 => ?_) (fun _ _ _ _ z => z)⟩
  intro F1 r1 H1 L1 x b1 rd wi1
  refine ⟨F1, r1, s1, h1, L1, R, ⟨b1.rs, wi1⟩, (Out.cases o1).mono (fun d2 s2 h2 o2 => ?_) (fun _ _ _ _ z => z.tr0 b1)⟩
  intro F2 r2' H2 L2 y b2 rd2 wi2
  have a2 := b2.at wi2
  split at o2
  · rename_i x' y' e1 e2
    exact hk _ _ _ _ _ _ _ _ _ _ _ _ _ a2 (RD.view a2 (rd.mono b2.le) e1) (RD.view a2 rd2 e2) (o2.mono (fun _ _ _ z => z.tr0 (b1.trans0 b2)) fun _ _ _ _ z => z.tr0 (b1.trans0 b2))
  · exact o2.elim
theorem w_ev1 {α : Type} {a : ME} {k : W → SL → HH → Mini.R O} {t1 : V → Hp → VK → Prop}
    (hk : ∀ σ F r H h R s L x v Q, At G F r H R σ s h L → VW G F r H x v → Out (k x s h) (PO G F r H R σ Q) (EK G Wx F r H R σ) → t1 v H Q) :
    ∀ σ H Q, TM G Wx (fun s h => (ev1 f a s h).bind k) σ H Q → TMd G Wx (evD f a) σ H fun v H1 => t1 v H1 Q := by
  rintro σ H Q ⟨F, r, s, h, L, R, a0, out⟩
  refine ⟨F, r, s, h, L, R, a0, (Out.cases (Out.cases out)).mono (fun d s1 h1 o1 => ?_) (fun _ _ _ _ z => z)⟩
  intro F1 r1 H1 L1 x b1 rd wi1
  have a1 := b1.at wi1
  obtain ⟨w, e1, o2⟩ := Out.ofO o1
  exact hk _ _ _ _ _ _ _ _ _ _ _ a1 (RD.view a1 rd e1) (o2.mono (fun _ _ _ z => z.tr0 b1) fun _ _ _ _ z => z.tr0 b1)
/-- behind an operation -/
theorem fin_of {Q : VK} {o : O} (a : At G F r H R σ s h L) (q : PO G F r H R σ Q o s h) : Fin G F r H h (L ++ R) Q o := fun H' w M l k ro wi => by
  have ht : ∀ b ∈ L ++ R, H b ≠ none := fun b hb => a.wi.there hb
  exact q F r H' L w M ⟨l, a.rs.mono l fun b hb => k b (ht b (List.mem_append_left _ hb)), fun b hb => k b (ht b (List.mem_append_right _ hb))⟩ ro wi

theorem fin_mono {Q : VK} {o : O} {F2 : Fz} {r2 : List Addr} {H2 : Hp} {L2' : List Addr} {s2 : SL} {h2 : HH} (b : Bh G F r H R σ F2 r2 H2 L2' s2) (w : WI G F2 r2 H2 h2 (L2' ++ R)) (q : PO G F r H R σ Q o s2 h2) : Fin G F2 r2 H2 h2 (L2' ++ R) Q o :=
  fin_of (b.at w) (q.tr0 b)
/-! ### leaves -/
theorem pe_cst {w : W} {c : Const} {j : Nat} {pos : Pos} (hc : cstOk w c = true) : PE X (.Constant c j pos) (TM G Wx fun s h => .ok (.sh w) s h) := by
  have fin : ∀ {v : V} {e : Expr}, PE X e (tC v) → (∀ (F : Fz) (r : List Addr) (H : Hp), RW G F r H w v) → PE X e (TM G Wx fun s h => .ok (.sh w) s h) := fun {v e} hp q => hp.weak fun σ H Q ⟨F, r, s, h, L, R, a, out⟩ =>
    out F r H L v [] a.here (.sh (q F r H)) a.wi
  unfold cstOk at hc
  split at hc
  · exact fin pe_non fun _ _ _ => .non
  · cases of_decide_eq_true (p := _ = _) (by simpa using hc)
    exact fin pe_bl fun _ _ _ => .bl _
  · cases of_decide_eq_true hc
    exact fin pe_int fun _ _ _ => .int _
  · have e := of_decide_eq_true hc
    subst e
    exact fin pe_str fun _ _ _ => .str _
  · cases hc
theorem rd_slot (a : At G F r H R σ s h L) {i : Nat} {w : W} {s' : SL} (e : rdS s i = some (w, s')) : ∃ v F' L', σ[i]? = some (some v) ∧ RW G F' r H w v ∧ Bh G F r H R σ F' r H L' s' ∧ WI G F' r H h (L' ++ R) := by
  have hi : i < s.length := by
    unfold rdS at e
    split at e
    all_goals first | exact (List.getElem?_eq_some_iff.mp (by assumption)).1 | cases e
  obtain ⟨A, M, B, eL, rA, rB, c⟩ := a.rs.split i hi
  rcases c with ⟨e1, _⟩ | ⟨o, v, e1, e2, ro⟩
  · unfold rdS at e
    rw [e1] at e
    cases e
  · have hs : ∀ w', o.toW = w' → RS G (fun a => F a ∨ a ∈ M) r H (s.set i (some (.sh w'))) σ (A ++ B) := fun w' ew => by
      have q := RS.mk (M := []) hi a.rs.len (rA.mono Le.share fun _ _ => rfl) (rB.mono Le.share fun _ _ => rfl) (RO.sh (ew ▸ ro.shareM))
      rw [set_get e2] at q
      simpa using q
    have wi : WI G (fun a => F a ∨ a ∈ M) r H h ((A ++ B) ++ R) := by
      refine WI.share (M := M) (a.wi.perm ?_)
      rw [eL]
      have : (A ++ (M ++ B)).Perm (M ++ (A ++ B)) := List.perm_append_comm_assoc ..
      exact (this.append_right R).trans (by rw [List.append_assoc])
    cases o with
    | sh w0 =>
      unfold rdS at e
      rw [e1] at e
      cases e
      cases ro with
      | sh q => exact ⟨v, F, L, e2, q, a.here, a.wi⟩
    | _ =>
      unfold rdS at e
      rw [e1] at e
      cases e
      exact ⟨v, _, A ++ B, e2, ro.shareM, ⟨Le.share, hs _ rfl, fun _ _ => rfl⟩, wi⟩
theorem pe_mvar {i : Nat} {e : Expr} (hv : PE X e (tVar i)) : PE X e (TM G Wx fun s h => match rdS s i with
    | some (w, s) => .ok (.sh w) s h
    | none => .fail) := hv.weak fun σ H Q ⟨F, r, s, h, L, R, a, out⟩ => by
  dsimp only at out
  split at out
  · rename_i w s' e
    obtain ⟨v, F', L', e1, q, b, wi⟩ := rd_slot a e
    exact ⟨v, e1, out F' r H L' v [] b (.sh q) wi⟩
  · exact out.elim
theorem pe_mmv {i : Nat} {e : Expr} (hv : PE X e (tVar i)) : PE X e (TM G Wx fun s h => match s[i]? with
    | some (some o) => .ok o (s.set i none) h
    | _ => .fail) := hv.weak fun σ H Q ⟨F, r, s, h, L, R, a, out⟩ => by
  dsimp only at out
  split at out
  · rename_i o e
    have hi := (List.getElem?_eq_some_iff.mp e).1
    obtain ⟨A, M, B, eL, rA, rB, c⟩ := a.rs.split i hi
    rcases c with ⟨e1, _⟩ | ⟨o', v, e1, e2, ro⟩
    · rw [e] at e1; cases e1
    · rw [e] at e1
      cases e1
      have q := RS.mkN (x := some v) hi a.rs.len rA rB
      rw [set_get e2] at q
      refine ⟨v, e2, out F r H (A ++ B) v M ⟨Le.refl _ _ _, q, fun _ _ => rfl⟩ ro (a.wi.perm ?_)⟩
      rw [eL]
      have : (A ++ (M ++ B)).Perm (M ++ (A ++ B)) := List.perm_append_comm_assoc ..
      exact (this.append_right R).trans (by rw [List.append_assoc])
  · exact out.elim
theorem pe_mfn {j : Nat} {e : Expr} (hf : G.fok j) (hv : PE X e (tC (.ref (G.fa j)))) : PE X e (TM G Wx fun s h => .ok (.sh (.fn j)) s h) := hv.weak fun σ H Q ⟨F, r, s, h, L, R, a, out⟩ =>
  out F r H L _ [] a.here (.sh (.fn hf)) a.wi
/-! ### operators -/
theorem pe_mbin {op : BOp} {o : Operator} {a b : ME} {ea eb : Expr} {pos : Pos} (ho : OpR X (binaryOp o) (rBin G op))
    (ha : PE X ea (TMd G Wx (evD f a))) (hb : PE X eb (TMd G Wx (evD f b))) : PE X (.BinOp ea o eb pos) (TM G Wx fun s h => ev2 f a b s h fun x y s h => ofO (binW op x y) s h) := by
  refine (pe_op ho ha hb).weak ?_
  refine w_ev2 fun σ F r H h R s L x y v u Q a va vb out => ?_
  obtain ⟨o, e, q⟩ := Out.ofO out
  exact ⟨F, r, h, L ++ R, x, y, o, a.wi, va, vb, e, fin_of a q⟩
theorem pe_mneg {a : ME} {ea : Expr} {pos : Pos} (ha : PE X ea (TMd G Wx (evD f a))) : PE X (.UnaryOp .USub ea pos) (TM G Wx fun s h => (ev1 f a s h).bind fun w s h => match w with
      | .int i => .ok (.sh (.int (-i))) s h
      | _ => .fail) := by
  refine (pe_un un_neg ha).weak ?_
  refine w_ev1 (α := O) (t1 := rU fun i => .int (-i)) fun σ F r H h R s L x v Q a va out => ?_
  split at out
  · exact ⟨_, va.int, out F r H L _ [] a.here (.sh (.int _)) a.wi⟩
  · exact out.elim
theorem w_cmp {op : COp} {a b : ME} : ∀ σ H Q, TM G Wx (fun s h => ev2 f a b s h fun x y s h => match cmpD op x y with
      | some b => .ok (.sh (.bl b)) s h
      | none => .fail) σ H Q → tOp (rCmp G (cmpD op)) (TMd G Wx (evD f a)) (TMd G Wx (evD f b)) σ H Q := by
  refine w_ev2 fun σ F r H h R s L x y v u Q a va vb out => ?_
  split at out
  · rename_i c e
    exact ⟨F, r, h, L ++ R, x, y, c, a.wi, va, vb, e, out F r H L _ [] a.here (.sh (.bl c)) a.wi⟩
  · exact out.elim
theorem pe_mcmp {op : COp} {o : CmpOp} {a b : ME} {ea eb : Expr} {pos : Pos} (ho : OpR X (compareOp o) (rCmp G (cmpD op))) (hm : behindInMarks o eb = false)
    (ha : PE X ea (TMd G Wx (evD f a))) (hb : PE X eb (TMd G Wx (evD f b))) : PE X (.Compare ea [o] [eb] pos) (TM G Wx fun s h => ev2 f a b s h fun x y s h => match cmpD op x y with
      | some b => .ok (.sh (.bl b)) s h
      | none => .fail) := (pe_cmpR ho ha hb hm).weak w_cmp
theorem w_cmpT {op : COp} {a b : ME} : ∀ σ H Q, TMt G Wx (fun s h => ev2 f a b s h fun x y s h => ofO (cmpD op x y) s h) σ H Q → tTest (tOp (rCmp G (cmpD op)) (TMd G Wx (evD f a)) (TMd G Wx (evD f b))) σ H Q := by
  rintro σ H Q ⟨F, r, s, h, L, R, a0, out⟩
  refine ⟨F, r, s, h, L, R, a0, (Out.cases out).mono (fun d s1 h1 o1 => ?_) (fun _ _ _ _ z => z)⟩
  intro F1 r1 H1 L1 x b1 rd wi1
  refine ⟨F1, r1, s1, h1, L1, R, ⟨b1.rs, wi1⟩, (Out.cases o1).mono (fun d2 s2 h2 o2 => ?_) (fun _ _ _ _ z => z.tr0 b1)⟩
  intro F2 r2' H2 L2 y b2 rd2 wi2
  have a2 := b2.at wi2
  split at o2
  · rename_i x' y' e1 e2
    obtain ⟨c, e, q⟩ := Out.ofO o2
    exact ⟨F2, r2', h2, L2 ++ R, x', y', c, wi2, RD.view a2 (rd.mono b2.le) e1, RD.view a2 rd2 e2, e, c, rfl, q F2 r2' H2 L2 (b1.trans0 b2) wi2⟩
  · exact o2.elim
theorem pt_mcmp {op : COp} {o : CmpOp} {a b : ME} {ea eb : Expr} {pos : Pos} (ho : OpR X (compareOp o) (rCmp G (cmpD op))) (hm : behindInMarks o eb = false)
    (ha : PE X ea (TMd G Wx (evD f a))) (hb : PE X eb (TMd G Wx (evD f b))) : PT X (.Compare ea [o] [eb] pos) (TMt G Wx fun s h => ev2 f a b s h fun x y s h => ofO (cmpD op x y) s h) := (pt_cmpR ho ha hb hm).weak w_cmpT
/-! ### is -/
theorem pe_misn {ne : Bool} {a : ME} {ea : Expr} {pos : Pos} {o : CmpOp} {j : Nat} {p2 : Pos} (ho : (ne = false ∧ o = .Is) ∨ (ne = true ∧ o = .IsNot)) (ha : PE X ea (TMd G Wx (evD f a))) : PE X (.Compare ea [o] [.Constant .none j p2] pos)
    (TM G Wx fun s h => (ev1 f a s h).bind fun w s h => .ok (.sh (.bl (if ne then !isNon w else isNon w))) s h) := by
  have fin : ∀ {r2 : R2}, OpR X (compareOp o) r2 → behindInMarks o (.Constant .none j p2) = false → (∀ (F : Fz) (r : List Addr) (H : Hp) (h : HH) (R : List Addr) (x : W) (v : V) (Q : VK), WI G F r H h R → VW G F r H x v → Q (.bl (if ne then !isNon x else isNon x)) H → r2 v .non H Q) →
      PE X (.Compare ea [o] [.Constant .none j p2] pos) (TM G Wx fun s h => (ev1 f a s h).bind fun w s h => .ok (.sh (.bl (if ne then !isNon w else isNon w))) s h) := fun {r2} h1 hm h2 => by
    refine (pe_cmpR h1 ha pe_non hm).weak ?_
    refine w_ev1 (α := O) (t1 := fun v H Q => r2 v .non H Q) fun σ F r H h R s L x v Q a va out => ?_
    exact h2 F r H h (L ++ R) x v Q a.wi va (out F r H L _ [] a.here (.sh (.bl _)) a.wi)
  rcases ho with ⟨rfl, rfl⟩ | ⟨rfl, rfl⟩
  · exact fin (op_isn (G := G)) rfl fun F r H h R x v Q wi va q => ⟨rfl, F, r, h, R, x, wi, va, q⟩
  · exact fin (op_nsn (G := G)) rfl fun F r H h R x v Q wi va q => ⟨rfl, F, r, h, R, x, wi, va, q⟩
theorem pe_misb {ne b : Bool} {a : ME} {ea : Expr} {pos : Pos} {o : CmpOp} {j : Nat} {p2 : Pos} (ho : (ne = false ∧ o = .Is) ∨ (ne = true ∧ o = .IsNot)) (ha : PE X ea (TMd G Wx (evD f a))) : PE X (.Compare ea [o] [.Constant (.bool b) j p2] pos)
    (TM G Wx fun s h => (ev1 f a s h).bind fun w s h => match w with
      | .bl c => .ok (.sh (.bl (if ne then !(b == c) else b == c))) s h
      | _ => .fail) := by
  have hb : ∀ c : Bool, decide (c = b) = (b == c) := fun c => by cases b <;> cases c <;> rfl
  rcases ho with ⟨rfl, rfl⟩ | ⟨rfl, rfl⟩
  · refine (pe_cmpR op_isBl ha pe_bl rfl).weak ?_
    refine w_ev1 (α := O) (t1 := fun v H Q => rIsB v (.bl b) H Q) fun σ F r H h R s L x v Q a va out => ?_
    split at out
    · rename_i c
      exact ⟨c, b, va.bl, rfl, by rw [hb]; exact out F r H L _ [] a.here (.sh (.bl _)) a.wi⟩
    · exact out.elim
  · refine (pe_cmpR op_notBl ha pe_bl rfl).weak ?_
    refine w_ev1 (α := O) (t1 := fun v H Q => rNotB v (.bl b) H Q) fun σ F r H h R s L x v Q a va out => ?_
    split at out
    · rename_i c
      exact ⟨c, b, va.bl, rfl, by rw [hb]; exact out F r H L _ [] a.here (.sh (.bl _)) a.wi⟩
    · exact out.elim
end
end Mini
set_option Elab.async false
set_option linter.all false
set_option maxRecDepth 100000
set_option maxHeartbeats 1000000
/-! Mini: and, or, tests, displays, subscripts. -/
namespace Mini
open PySem L2
section
variable {G : GI} {Wx : WX} {X : Cx} {f : ME → SL → HH → R O} {tf : ME → SL → HH → R Bool} {F F1 : Fz} {r r1 : List Addr} {H H1 : Hp} {R L L1 : List Addr} {σ : L2.St} {s s1 : SL} {h h1 : HH}
theorem tru_V {K : PySem.W.Frag} {x : W} {v : V} {b : Bool} (va : VW G F r H x v) (e : truW x = some b) : TruV K v H b := by
  have emp : ∀ {xs : List W} {us : List V}, RWs G F r H xs us → (!xs.isEmpty) = !us.isEmpty := fun q => by cases q <;> rfl
  unfold truW at e
  split at e
  · cases e; rw [va.non]; rfl
  · cases e; rw [va.bl]; rfl
  · cases e; rw [va.int]
    rename_i i
    show decide (i ≠ 0) = (i != 0)
    by_cases z : i = 0
    · subst z; rfl
    · rw [decide_eq_true z]; exact (bne_iff_ne.mpr z).symm
  · rename_i z
    split at e
    · rename_i hz
      cases e
      rw [va.str]
      refine ⟨by rw [strLen, ← line_eq]; exact hz, ?_⟩
      rw [strLen]
      cases z with
      | nil => rfl
      | cons a l =>
        show true = (((a :: l).length : Int) != 0)
        symm
        rw [bne_iff_ne, List.length_cons]
        omega
    · cases e
  · cases e
    obtain ⟨p, us, e1, h1, q1⟩ := va.tuple
    rw [e1]
    exact .inr (.inl ⟨us, .of h1, emp q1⟩)
  · cases e
    obtain ⟨p, us, e1, h1, q1⟩ := va.list
    rw [e1]
    exact .inl ⟨us, .of h1, emp q1⟩
  · cases e
    have fin : ∀ {a : Addr} {ks : List W} {kvs : List (Key × V)}, H a = some (.dK kvs) → ks.map kOf = kvs.map (fun p => some p.1) → TruV K (.ref a) H (!ks.isEmpty) := fun {a ks kvs} h1 h2 => by
      refine .inr (.inr ⟨kvs, h1, ?_⟩)
      cases ks <;> cases kvs <;> first | rfl | (simp at h2; done)
    cases va with
    | w q =>
      cases q with
      | dicK _ h1 h2 _ => exact fin h1 h2
    | dicK h1 h2 _ => exact fin h1 h2
  · cases e
/-- truth of what comes out -/
theorem tru_O {K : PySem.W.Frag} {o : O} {v : V} {M : List Addr} {b : Bool} {R : List Addr} (ro : RO G F r H o v M) (wi : WI G F r H h (M ++ R)) (e : truW (vw h o.toW) = some b) : TruV K v H b := by
  have q := RW.view (WI.share wi) ro.shareM
  exact tru_V q e
/-! ### and, or -/
theorem pe_mand {pos : Pos} : ∀ {es : List ME} {vs : List Expr}, F2 (fun m e => PE X e (TM G Wx (f m))) es vs → es ≠ [] → PE X (.BoolOp .And vs pos) (TM G Wx (andL f es))
  | [], _, _, hn => absurd rfl hn
  | [m], _, .cons a .nil, _ => pe_one a
  | m :: m' :: ms, _, .cons (b := e) a (.cons (b := e') b c), _ => by
    have ih := pe_mand (pos := pos) (es := m' :: ms) (.cons b c) (by simp)
    refine (pe_andT a ih).weak ?_
    rintro σ H Q ⟨F, r, s, h, L, R, a0, out⟩
    refine ⟨F, r, s, h, L, R, a0, (Out.cases (show Out ((f m s h).bind fun o s h => match truW (vw h o.toW) with
      | some true => andL f (m' :: ms) s h
      | some false => .ok o s h
      | none => .fail) _ _ from out)).mono (fun o s1 h1 o1 => ?_) (fun _ _ _ _ z => z)⟩
    intro F1 r1 H1 L1 v M b1 ro wi1
    split at o1
    · rename_i et
      refine ⟨true, tru_O ro wi1 et, ?_⟩
      rw [if_pos rfl]
      exact ⟨F1, r1, s1, h1, L1, R, ⟨b1.rs, wi1.right⟩, o1.mono (fun _ _ _ z => z.tr0 b1) fun _ _ _ _ z => z.tr0 b1⟩
    · rename_i et
      refine ⟨false, tru_O ro wi1 et, ?_⟩
      rw [if_neg (by decide)]
      exact o1 F1 r1 H1 L1 v M b1 ro wi1
    · exact o1.elim
theorem pe_mor {pos : Pos} : ∀ {es : List ME} {vs : List Expr}, F2 (fun m e => PE X e (TM G Wx (f m))) es vs → es ≠ [] → PE X (.BoolOp .Or vs pos) (TM G Wx (orL f es))
  | [], _, _, hn => absurd rfl hn
  | [m], _, .cons a .nil, _ => pe_one a
  | m :: m' :: ms, _, .cons (b := e) a (.cons (b := e') b c), _ => by
    have ih := pe_mor (pos := pos) (es := m' :: ms) (.cons b c) (by simp)
    refine (pe_orT a ih).weak ?_
    rintro σ H Q ⟨F, r, s, h, L, R, a0, out⟩
    refine ⟨F, r, s, h, L, R, a0, (Out.cases (show Out ((f m s h).bind fun o s h => match truW (vw h o.toW) with
      | some false => orL f (m' :: ms) s h
      | some true => .ok o s h
      | none => .fail) _ _ from out)).mono (fun o s1 h1 o1 => ?_) (fun _ _ _ _ z => z)⟩
    intro F1 r1 H1 L1 v M b1 ro wi1
    split at o1
    · rename_i et
      refine ⟨false, tru_O ro wi1 et, ?_⟩
      rw [if_neg (by decide)]
      exact ⟨F1, r1, s1, h1, L1, R, ⟨b1.rs, wi1.right⟩, o1.mono (fun _ _ _ z => z.tr0 b1) fun _ _ _ _ z => z.tr0 b1⟩
    · rename_i et
      refine ⟨true, tru_O ro wi1 et, ?_⟩
      rw [if_pos rfl]
      exact o1 F1 r1 H1 L1 v M b1 ro wi1
    · exact o1.elim
theorem w_bb {m : SL → HH → Mini.R Bool} {k : Bool → SL → HH → Mini.R Bool} {t1 : Bool → Hp → (Bool → Hp → Prop) → Prop}
    (hk : ∀ σ F r H h R s L b Q, At G F r H R σ s h L → Out (k b s h) (PB G F r H R σ Q) (EK G Wx F r H R σ) → t1 b H Q) :
    ∀ σ H Q, TMt G Wx (fun s h => (m s h).bind k) σ H Q → TMt G Wx m σ H fun b H1 => t1 b H1 Q := by
  rintro σ H Q ⟨F, r, s, h, L, R, a0, out⟩
  refine ⟨F, r, s, h, L, R, a0, (Out.cases out).mono (fun d s1 h1 o1 => ?_) (fun _ _ _ _ z => z)⟩
  intro F1 r1 H1 L1 b1 wi1
  exact hk _ _ _ _ _ _ _ _ _ _ (b1.at wi1) (o1.mono (fun _ _ _ z => z.tr0 b1) fun _ _ _ _ z => z.tr0 b1)
theorem pt_mand {pos : Pos} : ∀ {es : List ME} {vs : List Expr}, F2 (fun m e => PT X e (TMt G Wx (tf m))) es vs → es ≠ [] → PW X (.BoolOp .And vs pos) (TMt G Wx (allT tf es))
  | [], _, _, hn => absurd rfl hn
  | [m], _, .cons a .nil, _ => by
    have q := pw_and1 (pos := pos) a
    refine ⟨fun wh pins s σ H Q I hq => q.run wh pins s σ H Q I ?_⟩
    obtain ⟨F, r, s, h, L, R, a0, out⟩ := hq
    refine ⟨F, r, s, h, L, R, a0, (Out.cases (show Out ((tf m s h).bind fun b s h => if b then .ok true s h else .ok false s h) _ _ from out)).mono (fun b s1 h1 o1 => ?_) (fun _ _ _ _ z => z)⟩
    cases b <;> exact o1
  | m :: m' :: ms, _, .cons (b := e) a (.cons (b := e') b c), _ => by
    have ih := pt_mand (pos := pos) (es := m' :: ms) (.cons b c) (by simp)
    have q := pw_and a ih
    refine ⟨fun wh pins s σ H Q I hq => q.run wh pins s σ H Q I ?_⟩
    obtain ⟨F, r, s, h, L, R, a0, out⟩ := hq
    refine ⟨F, r, s, h, L, R, a0, (Out.cases (show Out ((tf m s h).bind fun b s h => if b then allT tf (m' :: ms) s h else .ok false s h) _ _ from out)).mono (fun b s1 h1 o1 => ?_) (fun _ _ _ _ z => z)⟩
    intro F1 r1 H1 L1 b1 wi1
    cases b with
    | true => exact ⟨F1, r1, s1, h1, L1, R, b1.at wi1, o1.mono (fun _ _ _ z => z.tr0 b1) fun _ _ _ _ z => z.tr0 b1⟩
    | false => exact o1 F1 r1 H1 L1 b1 wi1
theorem pt_mor {pos : Pos} : ∀ {es : List ME} {vs : List Expr}, F2 (fun m e => PT X e (TMt G Wx (tf m))) es vs → es ≠ [] → PW X (.BoolOp .Or vs pos) (TMt G Wx (anyT tf es))
  | [], _, _, hn => absurd rfl hn
  | [m], _, .cons a .nil, _ => by
    have q := pw_or1 (pos := pos) a
    refine ⟨fun wh pins s σ H Q I hq => q.run wh pins s σ H Q I ?_⟩
    obtain ⟨F, r, s, h, L, R, a0, out⟩ := hq
    refine ⟨F, r, s, h, L, R, a0, (Out.cases (show Out ((tf m s h).bind fun b s h => if b then .ok true s h else .ok false s h) _ _ from out)).mono (fun b s1 h1 o1 => ?_) (fun _ _ _ _ z => z)⟩
    cases b <;> exact o1
  | m :: m' :: ms, _, .cons (b := e) a (.cons (b := e') b c), _ => by
    have ih := pt_mor (pos := pos) (es := m' :: ms) (.cons b c) (by simp)
    have q := pw_or a ih
    refine ⟨fun wh pins s σ H Q I hq => q.run wh pins s σ H Q I ?_⟩
    obtain ⟨F, r, s, h, L, R, a0, out⟩ := hq
    refine ⟨F, r, s, h, L, R, a0, (Out.cases (show Out ((tf m s h).bind fun b s h => if b then .ok true s h else anyT tf (m' :: ms) s h) _ _ from out)).mono (fun b s1 h1 o1 => ?_) (fun _ _ _ _ z => z)⟩
    intro F1 r1 H1 L1 b1 wi1
    cases b with
    | false => exact ⟨F1, r1, s1, h1, L1, R, b1.at wi1, o1.mono (fun _ _ _ z => z.tr0 b1) fun _ _ _ _ z => z.tr0 b1⟩
    | true => exact o1 F1 r1 H1 L1 b1 wi1
/-! ### not, if -/
theorem pt_mnot {a : ME} {ea : Expr} {pos : Pos} (ha : PT X ea (TMt G Wx (tf a))) : PT X (.UnaryOp .Not ea pos) (TMt G Wx fun s h => (tf a s h).bind fun b s h => .ok (!b) s h) := by
  refine (pt_not ha).weak ?_
  exact w_bb (t1 := fun b H Q => Q (!b) H) fun σ F r H h R s L b Q a out => out F r H L a.here a.wi
theorem pe_mnot {a : ME} {ea : Expr} {pos : Pos} (ha : PE X ea (TMd G Wx (evD f a))) : PE X (.UnaryOp .Not ea pos) (TM G Wx fun s h => (ev1 f a s h).bind fun w s h => match truW w with
      | some b => .ok (.sh (.bl (!b))) s h
      | none => .fail) := by
  refine (pe_notT ha).weak ?_
  refine w_ev1 (α := O) (t1 := fun v H Q => ∃ k, TruV X.K v H k ∧ Q (.bl (!k)) H) fun σ F r H h R s L x v Q a va out => ?_
  split at out
  · rename_i b e
    exact ⟨b, tru_V va e, out F r H L _ [] a.here (.sh (.bl _)) a.wi⟩
  · exact out.elim
theorem pt_mite {c a b : ME} {ec ea eb : Expr} {pos : Pos} (hc : PT X ec (TMt G Wx (tf c))) (ha : PE X ea (TM G Wx (f a))) (hb : PE X eb (TM G Wx (f b))) : PE X (.IfExp ec ea eb pos) (TM G Wx fun s h => (tf c s h).bind fun t s h => if t then f a s h else f b s h) := by
  refine (pe_ifExp hc ha hb).weak ?_
  rintro σ H Q ⟨F, r, s, h, L, R, a0, out⟩
  refine ⟨F, r, s, h, L, R, a0, (Out.cases out).mono (fun t s1 h1 o1 => ?_) (fun _ _ _ _ z => z)⟩
  intro F1 r1 H1 L1 b1 wi1
  cases t with
  | true => exact ⟨F1, r1, s1, h1, L1, R, b1.at wi1, Out.mono (r := f a s1 h1) o1 (fun _ _ _ z => z.tr0 b1) fun _ _ _ _ z => z.tr0 b1⟩
  | false => exact ⟨F1, r1, s1, h1, L1, R, b1.at wi1, Out.mono (r := f b s1 h1) o1 (fun _ _ _ z => z.tr0 b1) fun _ _ _ _ z => z.tr0 b1⟩
/-- a test by truth -/
theorem pt_mval {a : ME} {ea : Expr} (ha : PE X ea (TMd G Wx (evD f a))) (he : ∀ whole, isTrue ea X.env whole = (do let v ← whole; standAt ea.pos; holding [v] (truthy v))) : PT X ea (TMt G Wx fun s h => (ev1 f a s h).bind fun w s h => ofO (truW w) s h) := by
  refine (pt_truth ha he).weak ?_
  rintro σ H Q ⟨F, r, s, h, L, R, a0, out⟩
  refine ⟨F, r, s, h, L, R, a0, (Out.cases (Out.cases out)).mono (fun d s1 h1 o1 => ?_) (fun _ _ _ _ z => z)⟩
  intro F1 r1 H1 L1 v b1 rd wi1
  have a1 := b1.at wi1
  obtain ⟨w, e1, o2⟩ := Out.ofO o1
  obtain ⟨b, e2, o3⟩ := Out.ofO o2
  exact ⟨b, tru_V (RD.view a1 rd e1) e2, o3 F1 r1 H1 L1 b1 wi1⟩
end
end Mini
set_option Elab.async false
set_option linter.all false
set_option maxRecDepth 100000
set_option maxHeartbeats 1000000
/-! Mini: lists of operands, displays, subscripts, built-ins, methods. -/
namespace Mini
open PySem L2
def plainE : Expr → Bool
  | .Name _ _ => true | .Constant _ _ _ => true | .BinOp _ _ _ _ => true | .UnaryOp _ _ _ => true | .Compare _ _ _ _ => true | .BoolOp _ _ _ => true | .IfExp _ _ _ _ => true
  | .Tuple _ _ _ => true | .List _ _ => true | .Dict _ _ _ => true | .Subscript _ _ _ => true | .Call _ _ _ _ => true | .ListComp _ _ _ _ => true | .DictComp _ _ _ _ _ => true | .Lambda .. => true
  | _ => false
def noCall0 : Expr → Bool
  | .Call (.Name _ _) [] [] _ => false
  | _ => true
theorem plain_star {e : Expr} {es : List Expr} {env : Env} (h : plainE e = true) : starEach (e :: es) env = (false, eval e env) :: starEach es env := by
  cases e <;> first | rfl | cases h
theorem plain_ix {e : Expr} (h : plainE e = true) : PlainIx e := by
  cases e <;> first | (intro o i; rfl) | cases h
theorem plain_fold {e : Expr} {env : Env} (h : plainE e = true) : ∀ x, foldedSetIterable e env x = pure x := by
  cases e <;> first | (intro x; rfl) | cases h
theorem plain_marks {op : CmpOp} {e : Expr} (h : plainE e = true) : behindInMarks op e = false := by
  cases e <;> first | rfl | cases h
theorem plain_base {e : Expr} {x : Str} {env : Env} {w : Sem Value} (h : plainE e = true) (h0 : noCall0 e = true) : attributeBase e x env w = w := by
  cases e with
  | Call f args kws p =>
    cases f with
    | Name id q =>
      cases args with
      | nil =>
        cases kws with
        | nil => cases h0
        | cons _ _ => rfl
      | cons _ _ => rfl
    | _ => rfl
  | _ => first | rfl | cases h
theorem plain_all {env : Env} {pos : Pos} : ∀ {es : List Expr}, (∀ e ∈ es, plainE e = true) → (backTo pos (starEach es env)).any (·.1) = false
  | [], _ => rfl
  | e :: es, h => by
    rw [plain_star (h e List.mem_cons_self)]
    show (false || (backTo pos (starEach es env)).any (·.1)) = false
    rw [plain_all fun e he => h e (List.mem_cons_of_mem _ he)]
    rfl
theorem F2.right {α β : Type} {p : α → β → Prop} {q : β → Prop} (h : ∀ a b, p a b → q b) : ∀ {as : List α} {bs : List β}, F2 p as bs → ∀ b ∈ bs, q b
  | _, _, .nil, _, hb => by cases hb
  | _, _, .cons a b, x, hb => by
    rcases List.mem_cons.mp hb with e | e
    · subst e; exact h _ _ a
    · exact F2.right h b x e
theorem Out.monoE {α : Type} {r : R α} {P P' : α → SL → HH → Prop} {E E' : Nat → List W → SL → HH → Prop} (h : Out r P E) (hp : ∀ a s h, r = .ok a s h → P a s h → P' a s h) (he : ∀ c ws s h, E c ws s h → E' c ws s h) : Out r P' E' := by
  cases r with
  | ok a s h' => exact hp _ _ _ rfl h
  | exc c ws s h' => exact he _ _ _ _ h
  | fail => exact h
theorem bind_ok {α β : Type} {r : R α} {k : α → SL → HH → R β} {b : β} {s : SL} {h : HH} (e : r.bind k = .ok b s h) : ∃ a s1 h1, r = .ok a s1 h1 ∧ k a s1 h1 = .ok b s h := by
  cases r with
  | ok a s1 h1 => exact ⟨a, s1, h1, rfl, e⟩
  | exc c ws s1 h1 => cases e
  | fail => cases e
theorem evL_len {f : ME → SL → HH → R O} : ∀ {es : List ME} {s : SL} {h : HH} {os : List O} {s' : SL} {h' : HH}, evL f es s h = .ok os s' h' → os.length = es.length
  | [], s, h, os, s', h', e => by cases e; rfl
  | m :: es, s, h, os, s', h', e => by
    obtain ⟨o, s1, h1, e1, e2⟩ := bind_ok e
    obtain ⟨os', s2, h2, e3, e4⟩ := bind_ok e2
    cases e4
    simp [evL_len e3]
section
variable (G : GI) (Wx : WX)
def PDs (F : Fz) (r : List Addr) (H : Hp) (R : List Addr) (σ : L2.St) (Q : List V → Hp → Prop) (ds : List Dl) (s' : SL) (h' : HH) : Prop :=
  ∀ F' r' H' L' vs, Bh G F r H R σ F' r' H' L' s' → F2 (fun d v => RD G σ F' r' H' d v) ds vs → WI G F' r' H' h' (L' ++ R) → Q vs H'
def TMds (f : SL → HH → R (List Dl)) : TA := fun σ H Q => ∃ F r s h L R, At G F r H R σ s h L ∧ Out (f s h) (PDs G F r H R σ Q) (EK G Wx F r H R σ)
end
section
variable {G : GI} {Wx : WX} {X : Cx} {f : ME → SL → HH → R O} {tf : ME → SL → HH → R Bool} {F F1 : Fz} {r r1 : List Addr} {H H1 : Hp} {R L L1 : List Addr} {σ : L2.St} {s s1 : SL} {h h1 : HH}
theorem PDs.tr0 (a : Bh G F r H R σ F1 r1 H1 L1 s1) {Q : List V → Hp → Prop} {o : List Dl} {s' : SL} {h' : HH} (h : PDs G F r H R σ Q o s' h') : PDs G F1 r1 H1 R σ Q o s' h' :=
  fun F' r' H' L' v b q w => h F' r' H' L' v (a.trans0 b) q w
theorem pa_L : ∀ {es : List ME} {vs : List Expr}, F2 (fun m e => PE X e (TM G Wx (f m)) ∧ plainE e = true) es vs → PA X vs (TMs G Wx (evL f es))
  | _, _, .nil => pa_nil.weak fun σ H Q ⟨F, r, s, h, L, R, a, out⟩ => out F r H L [] [] a.here .nil a.wi
  | m :: es, _, .cons ⟨a, pl⟩ b => by
    have ih := pa_L b
    refine (pa_cons a ih (plain_star pl)).weak ?_
    rintro σ H Q ⟨F, r, s, h, L, R, a0, out⟩
    refine ⟨F, r, s, h, L, R, a0, (Out.cases (show Out ((f m s h).bind fun o s h => (evL f es s h).bind fun os s h => .ok (o :: os) s h) _ _ from out)).mono (fun o s1 h1 o1 => ?_) (fun _ _ _ _ z => z)⟩
    intro F1 r1 H1 L1 v M b1 ro wi1
    refine ⟨F1, r1, s1, h1, L1, M ++ R, ⟨b1.rs, wi1.perm ?_⟩, (Out.cases o1).mono (fun os s2 h2 o2 => ?_) (fun _ _ _ _ z => EK.tr b1 z)⟩
    · rw [← List.append_assoc, ← List.append_assoc]
      exact List.perm_append_comm.append_right R
    intro F2' r2 H2 L2 vs' M2 b2 ros wi2
    refine o2 F2' r2 H2 L2 (v :: vs') (M ++ M2) (b1.trans b2) (.cons (ro.mono b2.le fun x hx => b2.kp x (List.mem_append_left _ hx)) ros) (wi2.perm ?_)
    have p1 : (M2 ++ (L2 ++ (M ++ R))).Perm (M2 ++ (M ++ (L2 ++ R))) := List.Perm.append_left M2 (List.perm_append_comm_assoc ..)
    refine p1.trans ?_
    have p2 : (M2 ++ (M ++ (L2 ++ R))).Perm (M ++ (M2 ++ (L2 ++ R))) := List.perm_append_comm_assoc ..
    refine p2.trans ?_
    rw [List.append_assoc]
theorem pa_D : ∀ {es : List ME} {vs : List Expr}, F2 (fun m e => PE X e (TMd G Wx (evD f m)) ∧ plainE e = true) es vs → PA X vs (TMds G Wx (evDs f es))
  | _, _, .nil => pa_nil.weak fun σ H Q ⟨F, r, s, h, L, R, a, out⟩ => out F r H L [] a.here .nil a.wi
  | m :: es, _, .cons ⟨a, pl⟩ b => by
    have ih := pa_D b
    refine (pa_cons a ih (plain_star pl)).weak ?_
    rintro σ H Q ⟨F, r, s, h, L, R, a0, out⟩
    refine ⟨F, r, s, h, L, R, a0, (Out.cases (show Out ((evD f m s h).bind fun o s h => (evDs f es s h).bind fun os s h => .ok (o :: os) s h) _ _ from out)).mono (fun o s1 h1 o1 => ?_) (fun _ _ _ _ z => z)⟩
    intro F1 r1 H1 L1 v b1 rd wi1
    refine ⟨F1, r1, s1, h1, L1, R, b1.at wi1, (Out.cases o1).mono (fun os s2 h2 o2 => ?_) (fun _ _ _ _ z => z.tr0 b1)⟩
    intro F2' r2 H2 L2 vs' b2 rds wi2
    exact o2 F2' r2 H2 L2 (v :: vs') (b1.trans0 b2) (.cons (rd.mono b2.le) rds) wi2
theorem RDs.views (a : At G F r H R σ s h L) : ∀ {ds : List Dl} {vs : List V} {ws : List W}, F2 (fun d v => RD G σ F r H d v) ds vs → getDs s h ds = some ws → VWs G F r H ws vs
  | _, _, _, .nil, e => by cases e; exact .nil
  | d :: ds, _, _, .cons q b, e => by
    unfold getDs at e
    split at e
    · rename_i e1 e2
      cases e
      exact .cons (RD.view a q e1) (RDs.views a b e2)
    · cases e
theorem w_bi {g : List W → Option O} {es : List ME} : ∀ σ H Q, TM G Wx (fun s h => (evDs f es s h).bind fun ds s h => match getDs s h ds with
      | some ws => ofO (g ws) s h
      | none => .fail) σ H Q → tCB (rFn G g) (TMds G Wx (evDs f es)) σ H Q := by
  rintro σ H Q ⟨F, r, s, h, L, R, a0, out⟩
  refine ⟨F, r, s, h, L, R, a0, (Out.cases out).mono (fun ds s1 h1 o1 => ?_) (fun _ _ _ _ z => z)⟩
  intro F1 r1 H1 L1 vs b1 rds wi1
  split at o1
  · rename_i ws e1
    obtain ⟨o, e2, q⟩ := Out.ofO o1
    exact ⟨F1, r1, h1, L1 ++ R, ws, o, wi1, RDs.views (b1.at wi1) rds e1, e2, fin_mono b1 wi1 q⟩
  · exact o1.elim
/-! ### displays -/
theorem pe_mtup {es : List ME} {vs : List Expr} {x1 : Nat} {pos : Pos} (hl : es.length ≤ 1000) (ha : PA X vs (TMs G Wx (evL f es))) : PE X (.Tuple vs x1 pos) (TM G Wx fun s h => (evL f es s h).bind fun os s h => match shs? os with
      | some ws => .ok (.sh (.tup ws)) s h
      | none => .ok (.tup os) s h) := by
  refine (pe_tup ha).weak ?_
  rintro σ H Q ⟨F, r, s, h, L, R, a0, out⟩
  refine ⟨F, r, s, h, L, R, a0, (Out.cases out).monoE (fun os s1 h1 e0 o1 => ?_) (fun _ _ _ _ z => z)⟩
  intro F1 r1 H1 L1 vs M b1 rr w1
  refine ⟨?_, fun p hp => ?_⟩
  · rw [← rr.len, evL_len e0, ← line_eq]
    exact Nat.le_trans hl (by decide)
  have l := Le.new w1 hp (.tup vs)
  have kp : ∀ b ∈ M ++ (L1 ++ R), upd H1 p (.tup vs) b = H1 b := fun b hb => upd_ne (w1.ne hb hp)
  have b2 : Bh G F r H R σ F1 r1 (upd H1 p (.tup vs)) L1 s1 := ⟨b1.le.trans l, b1.rs.mono l fun b hb => kp b (List.mem_append_right _ (List.mem_append_left _ hb)), fun b hb => (kp b (List.mem_append_right _ (List.mem_append_right _ hb))).trans (b1.kp b hb)⟩
  split at o1
  · rename_i ws e1
    obtain ⟨q, eM⟩ := ROs.ofShs rr e1
    subst eM
    exact o1 F1 r1 _ L1 (.ref p) [] b2 (.sh (.tup upd_same (q.mono l))) (w1.newT hp _)
  · exact o1 F1 r1 _ L1 (.ref p) M b2 (.tup upd_same (rr.mono l fun b hb => kp b (List.mem_append_left _ hb))) (w1.newT hp _)
theorem pe_mlst {es : List ME} {vs : List Expr} {pos : Pos} (hl : es.length ≤ 1000) (ha : PA X vs (TMs G Wx (evL f es))) : PE X (.List vs pos) (TM G Wx fun s h => (evL f es s h).bind fun os s h => .ok (.lst os) s h) := by
  refine (pe_lst ha).weak ?_
  rintro σ H Q ⟨F, r, s, h, L, R, a0, out⟩
  refine ⟨F, r, s, h, L, R, a0, (Out.cases out).monoE (fun os s1 h1 e0 o1 => ?_) (fun _ _ _ _ z => z)⟩
  intro F1 r1 H1 L1 vs M b1 rr w1
  refine ⟨?_, fun p hp => ?_⟩
  · rw [← rr.len, evL_len e0, ← line_eq]
    exact Nat.le_trans hl (by decide)
  have l := Le.new w1 hp (.lst vs)
  have kp : ∀ b ∈ M ++ (L1 ++ R), upd H1 p (.lst vs) b = H1 b := fun b hb => upd_ne (w1.ne hb hp)
  have b2 : Bh G F r H R σ F1 r1 (upd H1 p (.lst vs)) L1 s1 := ⟨b1.le.trans l, b1.rs.mono l fun b hb => kp b (List.mem_append_right _ (List.mem_append_left _ hb)), fun b hb => (kp b (List.mem_append_right _ (List.mem_append_right _ hb))).trans (b1.kp b hb)⟩
  exact o1 F1 r1 _ L1 (.ref p) (p :: M) b2 (.lst upd_same (rr.mono l fun b hb => kp b (List.mem_append_left _ hb))) (w1.new hp _)
theorem pe_mdnew {t : Bool} {pos : Pos} : PE X (.Dict [] [] pos) (TM G Wx fun s h => .ok (.dic t [] []) s h) := by
  have fin : ∀ {o : HO} {σ : L2.St} {H : Hp} {Q : VK}, (∀ {F r H p}, H p = some o → RO G F r H (.dic t [] []) (.ref p) [p]) → TM G Wx (fun s h => .ok (.dic t [] []) s h) σ H Q → ∀ p, H p = none → Q (.ref p) (upd H p o) := by
    rintro o σ H Q hr ⟨F, r, s, h, L, R, a, out⟩ p hp
    have l := Le.new a.wi hp o
    have kp : ∀ b ∈ L ++ R, upd H p o b = H b := fun b hb => upd_ne (a.wi.ne hb hp)
    exact out F r _ L (.ref p) [p] ⟨l, a.rs.mono l fun b hb => kp b (List.mem_append_left _ hb), fun b hb => kp b (List.mem_append_right _ hb)⟩ (hr upd_same) (a.wi.new hp o)
  cases t with
  | true => exact pe_dnewT.weak fun σ H Q q => fin (fun hq => .dicT hq rfl .nil) q
  | false => exact pe_dnewK.weak fun σ H Q q => fin (fun hq => .dicK hq rfl .nil) q
/-! ### subscripts -/
theorem pe_midx {a b : ME} {ea eb : Expr} {pos : Pos} (hu : X.A.units + 1 < cLine) (hs : PlainIx eb) (ha : PE X ea (TMd G Wx (evD f a))) (hb : PE X eb (TMd G Wx (evD f b))) :
    PE X (.Subscript ea eb pos) (TM G Wx fun s h => ev2 f a b s h fun x y s h => match getW x y with
      | some w => .ok (.sh w) s h
      | none => .fail) := by
  refine (pe_ix (ix_get (G := G) hu) ha hb hs).weak ?_
  refine w_ev2 fun σ F r H h R s L x y v u Q a va vb out => ?_
  split at out
  · rename_i w e
    exact ⟨F, r, h, L ++ R, x, y, w, a.wi, va, vb, e, fun z q => out F r H L z [] a.here (.sh q) a.wi⟩
  · exact out.elim
variable (G Wx) in
def TMo (f : SL → HH → Mini.R (Option Int)) : TO := fun σ H Q => ∃ F r s h L R, At G F r H R σ s h L ∧ Out (f s h) (fun o s' h' => ∀ F' r' H' L', Bh G F r H R σ F' r' H' L' s' → WI G F' r' H' h' (L' ++ R) → Q o H') (EK G Wx F r H R σ)
theorem po_mnone : L2.PO X none (TMo G Wx (evO f none)) := ⟨fun pins s σ H Q I ⟨F, r, s0, h, L, R, a, out⟩ => po_none.run pins s σ H Q I (out F r H L a.here a.wi)⟩
theorem po_msome {m : ME} {e : Expr} (he : PE X e (TMd G Wx (evD f m))) : L2.PO X (some e) (TMo G Wx (evO f (some m))) := by
  refine ⟨fun pins s σ H Q I hq => (po_some he).run pins s σ H Q I ?_⟩
  obtain ⟨F, r, s, h, L, R, a0, out⟩ := hq
  refine ⟨F, r, s, h, L, R, a0, (Out.cases (Out.cases (show Out ((ev1 f m s h).bind fun w s h => match w with
    | .int i => .ok (some i) s h
    | _ => .fail) _ _ from out))).mono (fun d s1 h1 o1 => ?_) (fun _ _ _ _ z => z)⟩
  intro F1 r1 H1 L1 x b1 rd wi1
  have a1 := b1.at wi1
  obtain ⟨w, e1, o2⟩ := Out.ofO o1
  have va := RD.view a1 rd e1
  split at o2
  · exact ⟨_, va.int, o2 F1 r1 H1 L1 b1 wi1⟩
  · exact o2.elim
theorem pe_mslc {a : ME} {lo hi : Option ME} {ea : Expr} {l u : Option Expr} {p2 pos : Pos} (ha : PE X ea (TMd G Wx (evD f a))) (hl : L2.PO X l (TMo G Wx (evO f lo))) (hh : L2.PO X u (TMo G Wx (evO f hi))) :
    PE X (.Subscript ea (.Slice l u none p2) pos) (TM G Wx fun s h => (evD f a s h).bind fun d s h => (evO f lo s h).bind fun l s h => (evO f hi s h).bind fun u s h => match d.get s h with
      | some x => ofO (slcW x l u) s h
      | none => .fail) := by
  refine (pe_slice (sl_slc (G := G)) ha hl hh).weak ?_
  rintro σ H Q ⟨F, r, s, h, L, R, a0, out⟩
  refine ⟨F, r, s, h, L, R, a0, (Out.cases out).mono (fun d s1 h1 o1 => ?_) (fun _ _ _ _ z => z)⟩
  intro F1 r1 H1 L1 x b1 rd wi1
  refine ⟨F1, r1, s1, h1, L1, R, b1.at wi1, (Out.cases o1).mono (fun l s2 h2 o2 => ?_) (fun _ _ _ _ z => z.tr0 b1)⟩
  intro F2' r2 H2 L2' b2 wi2
  have b12 := b1.trans0 b2
  refine ⟨F2', r2, s2, h2, L2', R, b2.at wi2, (Out.cases o2).mono (fun u s3 h3 o3 => ?_) (fun _ _ _ _ z => z.tr0 b12)⟩
  intro F3 r3 H3 L3 b3 wi3
  have b13 := b12.trans0 b3
  split at o3
  · rename_i w e
    obtain ⟨o, e2, q⟩ := Out.ofO o3
    exact ⟨F3, r3, h3, L3 ++ R, w, o, wi3, RD.view (b3.at wi3) (rd.mono (b2.le.trans b3.le)) e, e2, fin_mono b13 wi3 q⟩
  · exact o3.elim
theorem pe_mrev {a : ME} {ea : Expr} {k : Nat} {p1 p2 p3 pos : Pos} (ha : PE X ea (TMd G Wx (evD f a))) :
    PE X (.Subscript ea (.Slice none none (some (.UnaryOp .USub (.Constant (.int 1) k p1) p2)) p3) pos) (TM G Wx fun s h => (ev1 f a s h).bind fun w s h => ofO (revW w) s h) := by
  refine ⟨fun pins s σ H Q I hq => ?_⟩
  obtain ⟨F, r, s0, h, L, R, a0, out⟩ := hq
  have o0 := Out.cases (Out.cases out)
  cases ed : evD f a s0 h with
  | fail => rw [ed] at o0; exact o0.elim
  | exc c ws s1 h1 =>
    rw [ed] at o0
    exact (pe_revL ha).run pins s σ H Q I ⟨F, r, s0, h, L, R, a0, by rw [ed]; exact o0⟩
  | ok d s1 h1 =>
    rw [ed] at o0
    obtain ⟨w, e3, o3⟩ := Out.ofO (show Out (ofO (d.get s1 h1) s1 h1) _ _ from o0)
    obtain ⟨o, e4, q⟩ := Out.ofO o3
    cases w with
    | lst xs =>
      refine (pe_revL ha).run pins s σ H Q I ⟨F, r, s0, h, L, R, a0, ?_⟩
      rw [ed]
      intro F1 r1 H1 L1 x b1 rd wi1
      cases e4
      obtain ⟨b, us, e1, h1, q1⟩ := (RD.view (b1.at wi1) rd e3).list
      exact ⟨b, us, e1, .of h1, fun p hp => (fin_mono b1 wi1 q).lst wi1 hp q1.reverse⟩
    | tup xs =>
      refine (pe_revT ha).run pins s σ H Q I ⟨F, r, s0, h, L, R, a0, ?_⟩
      rw [ed]
      intro F1 r1 H1 L1 x b1 rd wi1
      cases e4
      obtain ⟨b, us, e1, h1, q1⟩ := (RD.view (b1.at wi1) rd e3).tuple
      exact ⟨b, us, e1, h1, fun p hp => (fin_mono b1 wi1 q).tup wi1 hp q1.reverse⟩
    | _ => cases e4
end
end Mini
set_option Elab.async false
set_option linter.all false
set_option maxRecDepth 100000
set_option maxHeartbeats 1000000
/-! Mini: lists that are changed. -/
namespace Mini
open PySem L2
section
variable {G : GI} {Wx : WX} {X : Cx} {f : ME → SL → HH → R O} {tf : ME → SL → HH → R Bool} {F F1 : Fz} {r r1 : List Addr} {H H1 : Hp} {R L L1 : List Addr} {σ : L2.St} {s s1 : SL} {h h1 : HH}
theorem ROs.split : ∀ {xs : List O} {vs : List V} {L : List Addr} (n : Nat), ROs G F r H xs vs L → n < xs.length → ∃ o v P M S, xs[n]? = some o ∧ vs[n]? = some v ∧ RO G F r H o v M ∧ L = P ++ (M ++ S) ∧ ROs G F r H (xs.take n) (vs.take n) P ∧ ROs G F r H (xs.drop (n + 1)) (vs.drop (n + 1)) S
  | _, _, _, n, .nil, h => by simp at h
  | _, _, _, 0, .cons (x := x) (v := v) (L := L) (M := M) a b, _ => ⟨x, v, [], L, M, rfl, rfl, a, rfl, .nil, by simpa using b⟩
  | _, _, _, n + 1, .cons (x := x) (v := v) (L := L) (M := M) a b, h => by
    obtain ⟨o, v', P, M', S, h1, h2, h3, h4, h5, h6⟩ := ROs.split n b (by simpa using h)
    exact ⟨o, v', L ++ P, M', S, by simpa using h1, by simpa using h2, h3, by rw [h4, List.append_assoc], .cons a h5, by simpa using h6⟩
/-- a slot that owns a list: the list is changed -/
theorem own_upd (a : At G F r H R σ s h L) {j : Nat} {xs : List O} (e : s[j]? = some (some (.lst xs))) : ∃ l vs Lx Lo, σ[j]? = some (some (.ref l)) ∧ H l = some (.lst vs) ∧ ROs G F r H xs vs Lx ∧ L.Perm (l :: (Lx ++ Lo)) ∧ l ∈ L ∧
    ∀ (xs' : List O) (vs' : List V) (Lx' : List Addr), ROs G F r (upd H l (.lst vs')) xs' vs' Lx' → ∃ L', RS G F r (upd H l (.lst vs')) (s.set j (some (.lst xs'))) σ L' ∧ L'.Perm (l :: (Lx' ++ Lo)) := by
  have hi := (List.getElem?_eq_some_iff.mp e).1
  obtain ⟨A, M, B, eL, rA, rB, c⟩ := a.rs.split j hi
  rcases c with ⟨e1, _⟩ | ⟨o', v, e1, e2, ro⟩
  · rw [e] at e1; cases e1
  rw [e] at e1
  cases e1
  cases ro with
  | lst hl q =>
    rename_i l vs Lx
    have hlL : l ∈ L := by rw [eL]; simp
    have nd := (List.nodup_append.mp a.wi.nodup).1
    rw [eL] at nd
    have neA : ∀ b ∈ A, b ≠ l := fun b hb ee => (List.nodup_append.mp nd).2.2 b hb l (by simp) ee
    have neB : ∀ b ∈ B, b ≠ l := fun b hb ee => by
      have := (List.nodup_append.mp nd).2.1
      exact (List.nodup_append.mp this).2.2 l (by simp) b hb ee.symm
    refine ⟨l, vs, Lx, A ++ B, e2, hl, q, ?_, hlL, fun xs' vs' Lx' q' => ⟨A ++ ((l :: Lx') ++ B), ?_, ?_⟩⟩
    · rw [eL]
      have p1 : (A ++ ((l :: Lx) ++ B)).Perm ((l :: Lx) ++ (A ++ B)) := List.perm_append_comm_assoc ..
      exact p1.trans (by simp)
    · have le := Le.own a.wi (p := l) (List.mem_append_left _ hlL) (by rw [hl]; simp) (by rw [hl]; simp) (.lst vs')
      have qq := RS.mk (M := l :: Lx') hi a.rs.len (rA.mono le fun b hb => upd_ne (neA b hb)) (rB.mono le fun b hb => upd_ne (neB b hb)) (RO.lst upd_same q')
      rw [set_get e2] at qq
      exact qq
    · have p1 : (A ++ ((l :: Lx') ++ B)).Perm ((l :: Lx') ++ (A ++ B)) := List.perm_append_comm_assoc ..
      exact p1.trans (by simp)
theorem RH.upd : ∀ {h : HH} {q L : List Addr} {j : Nat} {xs : List W} {a : Addr}, RH G F r H h q L → L.Nodup → h[j]? = some (.lst xs) → q[j]? = some a → ∃ vs, H a = some (.lst vs) ∧ RWs G F r H xs vs ∧ a ∈ L ∧
    ∀ {xs' : List W} {vs' : List V}, Le F r H F r (L2.upd H a (.lst vs')) → RWs G F r (L2.upd H a (.lst vs')) xs' vs' → RH G F r (L2.upd H a (.lst vs')) (h.set j (.lst xs')) q L
  | _, _, _, j, _, _, .nil, _, e, _ => by simp at e
  | _, _, _, 0, xs, a, .lst (vs := vs) e q b, nd, e1, e2 => by
    simp at e1 e2
    subst e1 e2
    refine ⟨vs, e, q, List.mem_cons_self, fun {xs' vs'} le q' => ?_⟩
    exact .lst upd_same q' (b.mono le fun x hx => upd_ne fun ee => (List.nodup_cons.mp nd).1 (ee ▸ hx))
  | _, _, _, j + 1, xs, a, .lst e q b, nd, e1, e2 => by
    obtain ⟨vs, h1, h2, h3, h4⟩ := RH.upd (j := j) (xs := xs) (a := a) b (List.nodup_cons.mp nd).2 (by simpa using e1) (by simpa using e2)
    refine ⟨vs, h1, h2, List.mem_cons_of_mem _ h3, fun {xs' vs'} le q' => ?_⟩
    exact .lst ((upd_ne fun ee => (List.nodup_cons.mp nd).1 (by rw [ee]; exact h3)).trans e) (q.mono le) (h4 le q')
  | _, _, _, 0, xs, a, .cel _ _ _ _ _, _, e1, e2 => by simp at e1
  | _, _, _, 0, xs, a, .cel0 _, _, e1, e2 => by simp at e1
  | _, _, _, j + 1, xs, a, .cel e d q p b, nd, e1, e2 => by
    obtain ⟨vs, h1, h2, h3, h4⟩ := RH.upd (j := j) (xs := xs) (a := a) b (List.nodup_cons.mp nd).2 (by simpa using e1) (by simpa using e2)
    refine ⟨vs, h1, h2, List.mem_cons_of_mem _ h3, fun {xs' vs'} le q' => ?_⟩
    exact .cel ((upd_ne fun ee => (List.nodup_cons.mp nd).1 (by rw [ee]; exact h3)).trans e) d q (p.mono le) (h4 le q')
  | _, _, _, j + 1, xs, a, .cel0 b, nd, e1, e2 => by
    obtain ⟨vs, h1, h2, h3, h4⟩ := RH.upd (j := j) (xs := xs) (a := a) b nd (by simpa using e1) (by simpa using e2)
    exact ⟨vs, h1, h2, h3, fun {xs' vs'} le q' => .cel0 (h4 le q')⟩
theorem WI.hlook (w : WI G F r H h R) {j : Nat} {xs : List W} {a : Addr} (e1 : h[j]? = some (.lst xs)) (e2 : r[j]? = some a) : ∃ vs, H a = some (.lst vs) ∧ RWs G F r H xs vs ∧ a ∉ R ∧
    ∀ {xs' : List W} {vs' : List V}, RWs G F r H xs' vs' → Le F r H F r (upd H a (.lst vs')) ∧ WI G F r (upd H a (.lst vs')) (h.set j (.lst xs')) R := by
  have w0 := w
  obtain ⟨⟨L, h1, h2, h3⟩, ff, tb, ow⟩ := w
  obtain ⟨vs, q1, q2, q3, q4⟩ := h1.upd (List.nodup_append.mp h2).1 e1 e2
  have naR : a ∉ R := fun hr => (List.nodup_append.mp h2).2.2 a q3 a hr rfl
  refine ⟨vs, q1, q2, naR, fun {xs' vs'} q' => ?_⟩
  have le : Le F r H F r (upd H a (.lst vs')) := by
    refine ⟨fun _ z => z, fun b fb => upd_ne fun ee => (h3 a (List.mem_append_left _ q3)).1 (ee ▸ fb), ⟨[], by simp⟩, fun b xs eb => ?_, fun b o u eb _ => ?_, fun b φ eb => ?_⟩
    · rw [upd_ne fun ee => by rw [ee, q1] at eb; cases eb]; exact eb
    · rw [upd_ne fun ee => by rw [ee, q1] at eb; cases eb]; exact eb
    · rw [upd_ne fun ee => by rw [ee, q1] at eb; cases eb]; exact eb
  refine ⟨le, ⟨L, q4 le (q'.mono le), h2, fun b hb => ⟨(h3 b hb).1, ?_⟩⟩, fun b fb => ?_, tabs_upd tb (fun ps e => by rw [q1] at e; cases e) (fun φ e => by rw [q1] at e; cases e), ow⟩
  · refine (h3 b hb).2.at_ ?_
    by_cases ee : b = a
    · subst ee; rw [upd_same]; simp
    · rw [upd_ne ee]; exact (h3 b hb).2.1
  · refine (ff b fb).at_ ?_
    by_cases ee : b = a
    · subst ee; rw [upd_same]; simp
    · rw [upd_ne ee]; exact (ff b fb).1
/-! ### places -/
def RP (σ : L2.St) (r : List Addr) (p : Pl) (v : V) : Prop := match p with
  | .slot i => σ[i]? = some (some v)
  | .heap j => ∃ a, r[j]? = some a ∧ v = .ref a
def isLD : Option (Option O) → Prop
  | some (some (.lst _)) => True
  | some (some (.dic _ _ _)) => True
  | _ => False
def PlOk (p : Pl) (s : SL) (h : HH) : Prop := match p with
  | .slot i => isLD s[i]?
  | .heap j => ∃ xs, h[j]? = some (.lst xs)
variable (G Wx) in
def TMp (f : SL → HH → Mini.R Pl) : TE := fun σ H Q => ∃ F r s h L R, At G F r H R σ s h L ∧
  Out (f s h) (fun p s' h' => ∀ F' r' H' L' v, Bh G F r H R σ F' r' H' L' s' → RP σ r' p v → PlOk p s' h' → WI G F' r' H' h' (L' ++ R) → Q v H') (EK G Wx F r H R σ)
theorem pe_p {e : Expr} {m : ME} (he : PE X e (TM G Wx (f m))) (hv : ∀ i, m = .var i → PE X e (tVar i)) : PE X e (TMp G Wx (evP f m)) := by
  refine ⟨fun pins s σ H Q I q => ?_⟩
  obtain ⟨F, r, s0, h0, L, R, a, out⟩ := q
  have common : evP f m s0 h0 = ((f m s0 h0).bind fun o s h => match o with
    | .sh (.hp j) => match h[j]? with
      | some (.lst _) => .ok (.heap j) s h
      | _ => .fail
    | _ => .fail) → wpAny (model X.prog X.w) X.A (eval e X.env) (EP X pins σ Q) X.xe s := fun ee => by
    rw [ee] at out
    refine he.run pins s σ H Q I ⟨F, r, s0, h0, L, R, a, (Out.cases out).mono (fun o s1 h1 q => ?_) (fun _ _ _ _ z => z)⟩
    intro F' r' H' L' v M b ro wi
    split at q
    · rename_i j
      split at q
      · rename_i xs ex
        cases ro with
        | sh ro =>
          cases ro with
          | hp er => exact q F' r' H' L' _ b ⟨_, er, rfl⟩ ⟨xs, ex⟩ wi
      · exact q.elim
    · exact q.elim
  cases m with
  | var i =>
    unfold evP at out
    dsimp only at out
    split at out
    · rename_i j ei
      split at out
      · rename_i xs ex
        have hi := (List.getElem?_eq_some_iff.mp ei).1
        obtain ⟨A, M, B, eL, rA, rB, c⟩ := a.rs.split i hi
        rcases c with ⟨e1, _⟩ | ⟨o', v, e1, e2, ro⟩
        · rw [ei] at e1; cases e1
        rw [ei] at e1
        cases e1
        cases ro with
        | sh ro =>
          cases ro with
          | hp er => exact (hv i rfl).run pins s σ H Q I ⟨_, e2, out F r H L _ a.here ⟨_, er, rfl⟩ ⟨xs, ex⟩ a.wi⟩
      · exact out.elim
    · rename_i xs ei
      have hi := (List.getElem?_eq_some_iff.mp ei).1
      obtain ⟨A, M, B, eL, rA, rB, c⟩ := a.rs.split i hi
      rcases c with ⟨e1, _⟩ | ⟨o', v, e1, e2, ro⟩
      · rw [ei] at e1; cases e1
      exact (hv i rfl).run pins s σ H Q I ⟨_, e2, out F r H L _ a.here e2 (show isLD s0[i]? by rw [ei]; trivial) a.wi⟩
    · rename_i t ks vs ei
      have hi := (List.getElem?_eq_some_iff.mp ei).1
      obtain ⟨A, M, B, eL, rA, rB, c⟩ := a.rs.split i hi
      rcases c with ⟨e1, _⟩ | ⟨o', v, e1, e2, ro⟩
      · rw [ei] at e1; cases e1
      exact (hv i rfl).run pins s σ H Q I ⟨_, e2, out F r H L _ a.here e2 (show isLD s0[i]? by rw [ei]; trivial) a.wi⟩
    · exact out.elim
  | _ => exact common rfl
/-- a place: a list lies there -/
theorem pl_list (a : At G F r H R σ s h L) {p : Pl} {v : V} (rp : RP σ r p v) {xs : List O} (hp : (∃ i, p = .slot i ∧ s[i]? = some (some (.lst xs))) ∨ ∃ j ws, p = .heap j ∧ h[j]? = some (.lst ws)) : ∃ l vs, v = .ref l ∧ H l = some (.lst vs) := by
  rcases hp with ⟨i, rfl, e⟩ | ⟨j, ws, rfl, e⟩
  · obtain ⟨l, vs, Lx, Lo, e1, e2, _⟩ := own_upd a e
    have rp : σ[i]? = some (some v) := rp
    rw [e1] at rp
    cases rp
    exact ⟨l, vs, rfl, e2⟩
  · obtain ⟨l, er, ev⟩ := rp
    obtain ⟨vs, q1, _⟩ := a.wi.hlook e er
    exact ⟨l, vs, ev, q1⟩
theorem pl_ty (a : At G F r H R σ s h L) {p : Pl} {v : V} (rp : RP σ r p v) (ok : PlOk p s h) (K : PySem.W.Frag) : tyV K "list" v H ∨ ∃ i t ks vs, p = .slot i ∧ s[i]? = some (some (.dic t ks vs)) := by
  cases p with
  | slot i =>
    have ok : isLD s[i]? := ok
    unfold isLD at ok
    split at ok
    · rename_i xs e
      obtain ⟨l, vs, ev, el⟩ := pl_list a rp (xs := xs) (.inl ⟨i, rfl, e⟩)
      subst ev
      exact .inl (.inl ⟨rfl, vs, .of el⟩)
    · rename_i t ks vs e
      exact .inr ⟨i, t, ks, vs, rfl, e⟩
    · exact ok.elim
  | heap j =>
    obtain ⟨ws, e⟩ := ok
    obtain ⟨l, vs, ev, el⟩ := pl_list a rp (xs := []) (.inr ⟨j, ws, rfl, e⟩)
    subst ev
    exact .inl (.inl ⟨rfl, vs, .of el⟩)
/-! ### pop -/
theorem erase_split {α : Type} (l : List α) (n : Nat) : l.eraseIdx n = l.take n ++ l.drop (n + 1) := List.eraseIdx_eq_take_drop_succ ..
theorem w_popP (a : At G F r H R σ s h L) {p : Pl} {v : V} (rp : RP σ r p v) {i : Int} {Q : VK} {F0 : Fz} {r0 : List Addr} {H0 : Hp} (b0 : Bh G F0 r0 H0 R σ F r H L s) {E : Nat → List W → SL → HH → Prop} (out : Out (popP p i s h) (PO G F0 r0 H0 R σ Q) E) :
    ∃ l vs n y, v = .ref l ∧ H l = some (.lst vs) ∧ ixN vs.length i = some n ∧ vs[n]? = some y ∧ Q y (upd H l (.lst (vs.eraseIdx n))) := by
  cases p with
  | slot j =>
    unfold popP at out
    dsimp only at out
    split at out
    · rename_i xs ej
      split at out
      · rename_i n en
        split at out
        · rename_i o eo
          obtain ⟨l, vs, Lx, Lo, e1, e2, q, pm, hl, up⟩ := own_upd a ej
          have rp : σ[j]? = some (some v) := rp
          rw [e1] at rp
          cases rp
          have hn : n < xs.length := (List.getElem?_eq_some_iff.mp eo).1
          obtain ⟨o', y, P, M, S, h1, h2, h3, h4, h5, h6⟩ := q.split n hn
          rw [eo] at h1
          cases h1
          refine ⟨l, vs, n, y, rfl, e2, by rw [← q.len]; exact en, h2, ?_⟩
          have le := Le.own a.wi (p := l) (List.mem_append_left _ hl) (by rw [e2]; simp) (by rw [e2]; simp) (.lst (vs.eraseIdx n))
          have nl : ∀ b ∈ Lx, b ≠ l := fun b hb ee => by
            have nd := pm.nodup_iff.mp (List.nodup_append.mp a.wi.nodup).1
            exact (List.nodup_cons.mp nd).1 (ee ▸ List.mem_append_left _ hb)
          have k1 : ∀ b ∈ Lx, upd H l (.lst (vs.eraseIdx n)) b = H b := fun b hb => upd_ne (nl b hb)
          have q' : ROs G F r (upd H l (.lst (vs.eraseIdx n))) (xs.eraseIdx n) (vs.eraseIdx n) (P ++ S) := by
            have z := ROs.append (h5.mono le fun b hb => k1 b (by rw [h4]; exact List.mem_append_left _ hb)) (h6.mono le fun b hb => k1 b (by rw [h4]; exact List.mem_append_right _ (List.mem_append_right _ hb)))
            rw [← erase_split, ← erase_split] at z
            exact z
          obtain ⟨L', rs', pm'⟩ := up _ _ _ q'
          have lR : ∀ b ∈ R, b ≠ l := fun b hb ee => (List.nodup_append.mp a.wi.nodup).2.2 l hl b hb ee.symm
          refine out F r _ L' y M (b0.trans0 ⟨le, rs', fun b hb => upd_ne (lR b hb)⟩) (h3.mono le fun b hb => k1 b (by rw [h4]; exact List.mem_append_right _ (List.mem_append_left _ hb))) ?_
          refine (WI.own a.wi (List.mem_append_left _ hl) (by rw [e2]; simp) (by rw [e2]; simp) _).perm ?_
          rw [← List.append_assoc]
          refine List.Perm.append_right R (pm.trans ?_)
          refine List.Perm.trans ?_ (List.Perm.append_left M pm'.symm)
          rw [h4]
          have p1 : (l :: ((P ++ (M ++ S)) ++ Lo)).Perm (l :: (M ++ ((P ++ S) ++ Lo))) := by
            refine List.Perm.cons l ?_
            have z : (P ++ (M ++ S)).Perm (M ++ (P ++ S)) := List.perm_append_comm_assoc ..
            exact (z.append_right Lo).trans (by rw [List.append_assoc])
          exact p1.trans List.perm_middle.symm
        · exact out.elim
      · exact out.elim
    · exact out.elim
  | heap j =>
    unfold popP at out
    dsimp only at out
    split at out
    · rename_i xs ej
      split at out
      · rename_i n en
        split at out
        · rename_i o eo
          obtain ⟨l, er, ev⟩ := rp
          obtain ⟨vs, q1, q2, naR, up⟩ := a.wi.hlook ej er
          obtain ⟨y, h1, h2⟩ := q2.get eo
          refine ⟨l, vs, n, y, ev, q1, by rw [← q2.len]; exact en, h1, ?_⟩
          obtain ⟨le, w'⟩ := up (q2.erase n)
          have kp : ∀ b ∈ L ++ R, upd H l (.lst (vs.eraseIdx n)) b = H b := fun b hb => upd_ne fun ee => naR (ee ▸ hb)
          exact out F r _ L y [] (b0.trans0 ⟨le, a.rs.mono le fun b hb => kp b (List.mem_append_left _ hb), fun b hb => kp b (List.mem_append_right _ hb)⟩) (.sh (h2.mono le)) w'
        · exact out.elim
      · exact out.elim
    · exact out.elim
theorem popP_list {p : Pl} {i : Int} {s : SL} {h : HH} {P : O → SL → HH → Prop} {E : Nat → List W → SL → HH → Prop} (out : Out (popP p i s h) P E) : (∃ j xs, p = .slot j ∧ s[j]? = some (some (.lst xs))) ∨ ∃ j ws, p = .heap j ∧ h[j]? = some (.lst ws) := by
  cases p with
  | slot j =>
    unfold popP at out
    dsimp only at out
    split at out
    · rename_i xs ej; exact .inl ⟨j, xs, rfl, ej⟩
    · exact out.elim
  | heap j =>
    unfold popP at out
    dsimp only at out
    split at out
    · rename_i xs ej; exact .inr ⟨j, xs, rfl, ej⟩
    · exact out.elim
theorem ix_last {n k : Nat} (h : ixN n (-1) = some k) : k = n - 1 ∧ 0 < n := by
  unfold ixN at h
  split at h
  · omega
  · split at h
    · cases h
      constructor <;> omega
    · cases h
theorem pe_mpop {a : ME} {ea : Expr} {apos cpos : Pos} (hp : plainE ea = true) (h0 : noCall0 ea = true) (hl : (apos.endLine == cpos.line) = true) (ha : PE X ea (TMp G Wx (evP f a))) :
    PE X (.Call (.Attribute ea "pop" apos) [] [] cpos) (TM G Wx fun s h => (evP f a s h).bind fun p s h => popP p (-1) s h) := by
  refine (pe_bm0 F.plainAttrs_list F.slot_list_pop rfl mt_pop ha (plain_base hp h0) hl).weak ?_
  rintro σ H Q ⟨F, r, s, h, L, R, a0, out⟩
  refine ⟨F, r, s, h, L, R, a0, (Out.cases out).mono (fun p s1 h1 o1 => ?_) (fun _ _ _ _ z => z)⟩
  intro F1 r1 H1 L1 v b1 rp ok wi1
  obtain ⟨l, vs, n, y, ev, el, en, ey, q⟩ := w_popP (b1.at wi1) rp b1 o1
  subst ev
  obtain ⟨en, h0⟩ := ix_last en
  subst en
  refine ⟨.inl ⟨rfl, vs, .of el⟩, l, vs, y, rfl, rfl, el, ey, ?_⟩
  have : vs.dropLast = vs.eraseIdx (vs.length - 1) := (List.eraseIdx_length_sub_one ..).symm
  rw [this]
  exact q
theorem ix_seq {n k : Nat} {i : Int} (h : ixN n i = some k) : seqIndex? i n = some k := by
  unfold ixN at h
  unfold seqIndex?
  by_cases h1 : 0 ≤ i
  · rw [if_pos h1] at h
    by_cases h2 : i < n
    · rw [if_pos h2] at h
      cases h
      have : ¬ i < 0 := by omega
      simp [this, h1, h2]
    · rw [if_neg h2] at h; cases h
  · rw [if_neg h1] at h
    by_cases h2 : -(n : Int) ≤ i
    · rw [if_pos h2] at h
      cases h
      have h3 : i < 0 := by omega
      have h4 : 0 ≤ i + n := by omega
      have h5 : i + n < n := by omega
      simp [h3, h4, h5]
    · rw [if_neg h2] at h; cases h
theorem rgOk_ok {i : Int} (e : rgOk i = true) : -(2 ^ 62) ≤ i ∧ i < 2 ^ 62 := by
  unfold rgOk at e
  simp only [Bool.and_eq_true, decide_eq_true_eq] at e
  constructor <;> omega
/-- a place of a list -/
theorem pe_pl {e : Expr} {m : ME} (he : PE X e (TMp G Wx (evP f m))) (K : PySem.W.Frag) : PE X e fun σ H Q => ∃ F r s h L R, At G F r H R σ s h L ∧
    Out (evPl f m s h) (fun p s' h' => ∀ F' r' H' L' v, Bh G F r H R σ F' r' H' L' s' → RP σ r' p v → tyV K "list" v H' → WI G F' r' H' h' (L' ++ R) → Q v H') (EK G Wx F r H R σ) := by
  refine he.weak ?_
  rintro σ H Q ⟨F, r, s, h, L, R, a, out⟩
  refine ⟨F, r, s, h, L, R, a, (Out.cases out).mono (fun p s1 h1 q => ?_) (fun _ _ _ _ z => z)⟩
  intro F' r' H' L' v b rp ok wi
  split at q
  · rename_i hl
    refine q F' r' H' L' v b rp ?_ wi
    rcases pl_ty (b.at wi) rp ok K with z | ⟨i, t, ks, vs, ep, ed⟩
    · exact z
    · subst ep
      unfold isLp at hl
      dsimp only at hl
      rw [ed] at hl
      cases hl
  · exact q.elim
theorem RP.mono (l : Le F r H F1 r1 H1) {p : Pl} {v : V} (rp : RP σ r p v) : RP σ r1 p v := by
  cases p with
  | slot j => exact rp
  | heap j =>
    obtain ⟨a, e, ev⟩ := rp
    exact ⟨a, l.at e, ev⟩
theorem pe_mpopi {a i : ME} {ea ei : Expr} {apos cpos : Pos} (hp : plainE ea = true) (h0 : noCall0 ea = true) (hi : plainE ei = true) (hl : (apos.endLine == cpos.line) = true) (ha : PE X ea (TMp G Wx (evP f a))) (hb : PE X ei (TMd G Wx (evD f i))) :
    PE X (.Call (.Attribute ea "pop" apos) [ei] [] cpos) (TM G Wx fun s h => (evPl f a s h).bind fun p s h => (ev1 f i s h).bind fun w s h => match w with
      | .int k => if rgOk k then popP p k s h else .fail
      | _ => .fail) := by
  refine (pe_bm F.plainAttrs_list F.slot_list_pop rfl mt_popAt (pe_pl ha X.K) (pa_cons hb pa_nil (plain_star hi)) (plain_base hp h0) (by rw [plain_star hi]; rfl) hl (plain_star hi) rfl).weak ?_
  rintro σ H Q ⟨F, r, s, h, L, R, a0, out⟩
  refine ⟨F, r, s, h, L, R, a0, (Out.cases out).mono (fun p s1 h1 o1 => ?_) (fun _ _ _ _ z => z)⟩
  intro F1 r1 H1 L1 v b1 rp ty wi1
  refine ⟨ty, F1, r1, s1, h1, L1, R, b1.at wi1, ?_⟩
  refine (Out.cases (Out.cases o1)).mono (fun d s2 h2 o2 => ?_) (fun _ _ _ _ z => z.tr0 b1)
  intro F2' r2 H2 L2 x b2 rd wi2
  obtain ⟨w, e3, o3⟩ := Out.ofO o2
  have vx := RD.view (b2.at wi2) rd e3
  split at o3
  · rename_i k
    split at o3
    · rename_i hk
      have b12 := b1.trans0 b2
      obtain ⟨l, vs, n, y, ev, el, en, ey, q⟩ := w_popP (b2.at wi2) (rp.mono b2.le) b12 o3
      have e4 := ix_seq en
      have hz := rgOk_ok hk
      exact ⟨l, vs, k, n, y, ev, by rw [vx.int], el, by omega, by omega, e4, ey, q⟩
    · exact o3.elim
  · exact o3.elim
end
end Mini
set_option Elab.async false
set_option linter.all false
set_option maxRecDepth 100000
set_option maxHeartbeats 1000000
/-! Mini: more methods, isinstance. -/
namespace Mini
open PySem L2
section
variable {G : GI} {Wx : WX} {X : Cx} {f : ME → SL → HH → R O} {tf : ME → SL → HH → R Bool} {F F1 : Fz} {r r1 : List Addr} {H H1 : Hp} {R L L1 : List Addr} {σ : L2.St} {s s1 : SL} {h h1 : HH}
theorem pe_mindex {a b : ME} {ea eb : Expr} {apos cpos : Pos} (hp : plainE ea = true) (h0 : noCall0 ea = true) (hb0 : plainE eb = true) (hl : (apos.endLine == cpos.line) = true) (ha : PE X ea (TMd G Wx (evD f a))) (hb : PE X eb (TMd G Wx (evD f b))) :
    PE X (.Call (.Attribute ea "index" apos) [eb] [] cpos) (TM G Wx fun s h => (evD f a s h).bind fun d s h => match d.get s h with
      | some (.lst _) => (ev1 f b s h).bind fun y s h => match d.get s h with
        | some (.lst xs) => match indexW (.lst xs) y with
          | some w => .ok (.sh w) s h
          | none => .fail
        | _ => .fail
      | _ => .fail) := by
  refine (pe_bm F.plainAttrs_list F.slot_list_index rfl (mt_idx (G := G)) ha (pa_cons hb pa_nil (plain_star hb0)) (plain_base hp h0) (by rw [plain_star hb0]; rfl) hl (plain_star hb0) rfl).weak ?_
  rintro σ H Q ⟨F, r, s, h, L, R, a0, out⟩
  refine ⟨F, r, s, h, L, R, a0, (Out.cases out).mono (fun d s1 h1 o1 => ?_) (fun _ _ _ _ z => z)⟩
  intro F1 r1 H1 L1 v b1 rd wi1
  split at o1
  · rename_i xs0 e0
    obtain ⟨p, us, ev, eh, _⟩ := (RD.view (b1.at wi1) rd e0).list
    refine ⟨by rw [ev]; exact .inl ⟨rfl, us, .of eh⟩, F1, r1, s1, h1, L1, R, b1.at wi1, ?_⟩
    refine (Out.cases (Out.cases o1)).mono (fun d2 s2 h2 o2 => ?_) (fun _ _ _ _ z => z.tr0 b1)
    intro F2' r2 H2 L2 y b2 rd2 wi2
    obtain ⟨w, e3, o3⟩ := Out.ofO o2
    have vx := RD.view (b2.at wi2) rd2 e3
    have b12 := b1.trans0 b2
    split at o3
    · rename_i xs e4
      split at o3
      · rename_i w2 e5
        have e5' := e5
        have : ∃ n : Nat, w2 = .int n := by
          unfold indexW at e5
          dsimp only at e5
          split at e5
          · split at e5
            · cases e5; exact ⟨_, rfl⟩
            · cases e5
          · cases e5
        obtain ⟨n, en⟩ := this
        subst en
        exact ⟨y, rfl, F2', r2, h2, L2 ++ R, xs, w, n, wi2, RD.view (b2.at wi2) (rd.mono b2.le) e4, vx, e5', o3 F2' r2 H2 L2 _ [] b12 (.sh (.int n)) wi2⟩
      · exact o3.elim
    · exact o3.elim
  · exact o1.elim
theorem VW.isD {t : Bool} {ks vs : List W} {v : V} (va : VW G F r H (.dic t ks vs) v) : ∃ a, v = .ref a ∧ IsD H a := by
  cases va with
  | w q =>
    cases q with
    | dicK _ h1 _ _ => exact ⟨_, rfl, .inl ⟨_, .of h1⟩⟩
    | dicT _ h1 _ _ => exact ⟨_, rfl, .inr ⟨_, .of h1⟩⟩
  | dicK h1 _ _ => exact ⟨_, rfl, .inl ⟨_, .of h1⟩⟩
  | dicT h1 _ _ => exact ⟨_, rfl, .inr ⟨_, .of h1⟩⟩
theorem pe_mgetd {a b c : ME} {ea eb ec : Expr} {apos cpos : Pos} (hu : X.A.units + 1 < cLine) (hp : plainE ea = true) (h0 : noCall0 ea = true) (hb0 : plainE eb = true) (hc0 : plainE ec = true) (hl : (apos.endLine == cpos.line) = true)
    (ha : PE X ea (TMd G Wx (evD f a))) (hb : PE X eb (TMd G Wx (evD f b))) (hc : PE X ec (TM G Wx (f c))) :
    PE X (.Call (.Attribute ea "get" apos) [eb, ec] [] cpos) (TM G Wx fun s h => (evD f a s h).bind fun d s h => match d.get s h with
      | some (.dic _ _ _) => (evD f b s h).bind fun d' s h => (f c s h).bind fun z s h => match d.get s h, d'.get s h with
        | some (.dic t ks vs), some k => if keyW t k then (match lookK k ks vs with
          | some w => .ok (.sh w) s h
          | none => .ok z s h) else .fail
        | _, _ => .fail
      | _ => .fail) := by
  refine (pe_dget2 hu ha hb hc ⟨plain_base hp h0, by rw [plain_star hb0, plain_star hc0]; rfl, hl, by rw [plain_star hb0, plain_star hc0]; rfl⟩).weak ?_
  rintro σ H Q ⟨F, r, s, h, L, R, a0, out⟩
  refine ⟨F, r, s, h, L, R, a0, (Out.cases out).mono (fun d s1 h1 o1 => ?_) (fun _ _ _ _ z => z)⟩
  intro F1 r1 H1 L1 v b1 rd wi1
  split at o1
  · rename_i t0 ks0 vs0 e0
    obtain ⟨p, ev, hd⟩ := (RD.view (b1.at wi1) rd e0).isD
    refine ⟨p, ev, hd, F1, r1, s1, h1, L1, R, b1.at wi1, (Out.cases o1).mono (fun d2 s2 h2 o2 => ?_) (fun _ _ _ _ z => z.tr0 b1)⟩
    intro F2' r2 H2 L2 y b2 rd2 wi2
    have b12 := b1.trans0 b2
    refine ⟨F2', r2, s2, h2, L2, R, b2.at wi2, (Out.cases o2).mono (fun z s3 h3 o3 => ?_) (fun _ _ _ _ z => z.tr0 b12)⟩
    intro F3 r3 H3 L3 u M b3 ro wi3
    have b13 := b12.trans0 b3
    have a3 := b3.at wi3.right
    split at o3
    · rename_i t ks vs k e4 e5
      split at o3
      · rename_i hk
        have vd := RD.view a3 (rd.mono (b2.le.trans b3.le)) e4
        have vk := RD.view a3 (rd2.mono b3.le) e5
        obtain ⟨a, ea, c⟩ := dget vd vk hk
        have epa : p = a := by rw [ev] at ea; cases ea; rfl
        subst epa
        rcases c with ⟨w, z', el, g, rw'⟩ | ⟨el, g⟩
        · rw [el] at o3
          exact ⟨some z', g, o3 F3 r3 H3 L3 z' [] b13 (.sh rw') wi3.right⟩
        · rw [el] at o3
          exact ⟨none, g, o3 F3 r3 H3 L3 u M b13 ro wi3⟩
      · exact o3.elim
    · exact o3.elim
  · exact o1.elim
/-! ### isinstance -/
theorem boot_ty (t : Ty) : bootBuiltins (tnm t : Str) = some (.type (tnm t)) := by cases t <;> rfl
theorem pe_misty1 {t : Ty} {a : ME} {ea : Expr} {p p2 pos : Pos} (hg : Gl X "isinstance") (hm : X.mg "isinstance" = none) (hg2 : Gl X (tnm t : Str)) (hm2 : X.mg (tnm t : Str) = none) (hp : plainE ea = true) (ha : PE X ea (TMd G Wx (evD f a))) :
    PE X (.Call (.Name "isinstance" p) [ea, .Name (tnm t : Str) p2] [] pos) (TM G Wx fun s h => (ev1 f a s h).bind fun w s h => match isTyW [t] w with
      | some b => .ok (.sh (.bl b)) s h
      | none => .fail) := by
  refine (pe_callB (fn_is1 (G := G) t) hg hm rfl (pa_cons ha (pa_cons (pe_bltn (v := .ty (tnm t)) hg2 hm2 (boot_ty t) rfl (by cases t <;> decide) (by cases t <;> decide)) pa_nil) (plain_star hp)) (he := plain_star hp)).weak ?_
  refine w_ev1 (α := O) (t1 := fun v H Q => rIs1 G t [v, .ty (tnm t)] H Q) fun σ F r H h R s L x v Q a va out => ?_
  split at out
  · rename_i b e
    exact ⟨v, rfl, F, r, h, L ++ R, x, b, a.wi, va, e, out F r H L _ [] a.here (.sh (.bl b)) a.wi⟩
  · exact out.elim
theorem pa_tys : ∀ {ts : List Ty} {ys : List Expr}, F2 (fun t e => PE X e (tC (.ty (tnm t))) ∧ plainE e = true) ts ys → PA X ys fun σ H Q => Q (ts.map fun t => V.ty (tnm t)) H
  | _, _, .nil => pa_nil
  | t :: ts, _, .cons a b => (pa_cons a.1 (pa_tys b) (plain_star a.2)).weak fun σ H Q q => q
theorem pe_mistyM {ts : List Ty} {a : ME} {ea : Expr} {ys : List Expr} {x1 : Nat} {p p2 pos : Pos} (hg : Gl X "isinstance") (hm : X.mg "isinstance" = none) (hl : ts.length ≤ 1000) (hy : F2 (fun t e => PE X e (tC (.ty (tnm t))) ∧ plainE e = true) ts ys) (hp : plainE ea = true) (ha : PE X ea (TMd G Wx (evD f a))) :
    PE X (.Call (.Name "isinstance" p) [ea, .Tuple ys x1 p2] [] pos) (TM G Wx fun s h => (ev1 f a s h).bind fun w s h => match isTyW ts w with
      | some b => .ok (.sh (.bl b)) s h
      | none => .fail) := by
  refine (pe_callB (fn_isM (G := G) ts) hg hm rfl (pa_cons ha (pa_cons (pe_tup (pa_tys hy)) pa_nil) (plain_star hp)) (he := plain_star hp)).weak ?_
  rintro σ H Q ⟨F, r, s, h, L, R, a0, out⟩
  refine ⟨F, r, s, h, L, R, a0, (Out.cases (Out.cases out)).mono (fun d s1 h1 o1 => ?_) (fun _ _ _ _ z => z)⟩
  intro F1 r1 H1 L1 x b1 rd wi1
  obtain ⟨w, e1, o2⟩ := Out.ofO o1
  refine ⟨by rw [List.length_map, ← line_eq]; exact Nat.le_trans hl (by decide), fun q hq => ?_⟩
  have l := Le.new wi1 hq (.tup (ts.map fun t => V.ty (tnm t)))
  have kp : ∀ b ∈ L1 ++ R, upd H1 q (.tup (ts.map fun t => V.ty (tnm t))) b = H1 b := fun b hb => upd_ne (wi1.ne hb hq)
  have b2 : Bh G F r H R σ F1 r1 _ L1 s1 := ⟨b1.le.trans l, b1.rs.mono l fun b hb => kp b (List.mem_append_left _ hb), fun b hb => (kp b (List.mem_append_right _ hb)).trans (b1.kp b hb)⟩
  have w2 := wi1.newT hq (.tup (ts.map fun t => V.ty (tnm t)))
  split at o2
  · rename_i b e
    exact ⟨x, q, rfl, upd_same, F1, r1, h1, L1 ++ R, w, b, w2, RD.view (b2.at w2) (rd.mono l) e1, e, o2 F1 r1 _ L1 _ [] b2 (.sh (.bl b)) w2⟩
  · exact o2.elim
/-! ### built-ins -/
theorem pe_mlenset {a : ME} {ea : Expr} {p p2 q pos : Pos} (hg : Gl X "len") (hm : X.mg "len" = none) (hg2 : Gl X "set") (hm2 : X.mg "set" = none) (hc : X.calm = true) (hp : plainE ea = true) (ha : PE X ea (TM G Wx (f a))) :
    PE X (.Call (.Name "len" p) [.Call (.Name "set" p2) [ea] [] q] [] pos) (TM G Wx fun s h => (f a s h).bind fun o s h => ofO (lensetF [o.toW]) s h) := by
  refine (pe_lenset (G := G) hg hm hg2 hm2 ha hc (plain_star hp)).weak ?_
  rintro σ H Q ⟨F, r, s, h, L, R, a0, out⟩
  refine ⟨F, r, s, h, L, R, a0, (Out.cases out).mono (fun o s1 h1 o1 => ?_) (fun _ _ _ _ z => z)⟩
  intro F1 r1 H1 L1 v M b1 ro wi1
  obtain ⟨o', e, q⟩ := Out.ofO o1
  exact ⟨_, r1, h1, L1 ++ R, o.toW, o', wi1.share, .w ro.shareM, e, fin_mono b1.share wi1.share q⟩
def biT : BI → Bool
  | .list => true | .tuple => true | .int => true
  | _ => false
def biOk : BI → Bool
  | .lenset => false | .dictp => false
  | _ => true
theorem pe_mbi {b : BI} {es : List ME} {e : Expr} {vs : List Expr} {p pos : Pos} (ok : biOk b = true) (hK : X.K = G.K) (hc : X.calm = true) (hg : Gl X (biNm b)) (hm : X.mg (biNm b) = none) (hp : ∀ x ∈ e :: vs, plainE x = true) (ha : PA X (e :: vs) (TMds G Wx (evDs f es))) :
    PE X (.Call (.Name (biNm b) p) (e :: vs) [] pos) (TM G Wx fun s h => (evDs f es s h).bind fun ds s h => match getDs s h ds with
      | some ws => ofO (biW b ws) s h
      | none => .fail) := by
  have hs : starEach (e :: vs) X.env = (false, eval e X.env) :: starEach vs X.env := plain_star (hp e List.mem_cons_self)
  have hpl : (backTo pos (starEach vs X.env)).any (·.1) = false := plain_all fun x hx => hp x (List.mem_cons_of_mem _ hx)
  cases b with
  | len => exact (pe_callB (fn_len (G := G)) hg hm rfl ha (he := hs) (hpl := hpl)).weak w_bi
  | list => exact (pe_callTy (fn_list (G := G) hK) hg hm rfl ha (he := hs) (hpl := hpl)).weak w_bi
  | tuple => exact (pe_callTy (fn_tuple (G := G)) hg hm rfl ha (he := hs) (hpl := hpl)).weak w_bi
  | sorted => exact (pe_callB (fn_sorted (G := G)) hg hm rfl ha (he := hs) (hpl := hpl)).weak w_bi
  | sum => exact (pe_callB (fn_sum (G := G) hc) hg hm rfl ha (he := hs) (hpl := hpl)).weak w_bi
  | max1 => exact (pe_callB (fn_max1 (G := G) hc) hg hm rfl ha (he := hs) (hpl := hpl)).weak w_bi
  | min1 => exact (pe_callB (fn_min1 (G := G) hc) hg hm rfl ha (he := hs) (hpl := hpl)).weak w_bi
  | max2 => exact (pe_callB (fn_max2 (G := G) hc) hg hm rfl ha (he := hs) (hpl := hpl)).weak w_bi
  | min2 => exact (pe_callB (fn_min2 (G := G) hc) hg hm rfl ha (he := hs) (hpl := hpl)).weak w_bi
  | abs => exact (pe_callB (fn_abs (G := G)) hg hm rfl ha (he := hs) (hpl := hpl)).weak w_bi
  | int => exact (pe_callTy (fn_int (G := G)) hg hm rfl ha (he := hs) (hpl := hpl)).weak w_bi
  | all => exact (pe_callB (fn_all (G := G) hc) hg hm rfl ha (he := hs) (hpl := hpl)).weak w_bi
  | any => exact (pe_callB (fn_any (G := G) hc) hg hm rfl ha (he := hs) (hpl := hpl)).weak w_bi
  | lenset => cases ok
  | dictp => cases ok
end
end Mini
set_option Elab.async false
set_option linter.all false
set_option maxRecDepth 100000
set_option maxHeartbeats 1000000
/-! Mini: walks and comprehensions. -/
namespace Mini
open PySem L2
/-! ### slots set and wiped -/
def wipeG {α : Type} (s : List (Option α)) : List Nat → List (Option α)
  | [] => s
  | i :: is => (wipeG s is).set i none
theorem wipe_G (s : SL) : ∀ is, Mini.wipe s is = wipeG s is
  | [] => rfl
  | i :: is => by show (Mini.wipe s is).set i none = _; rw [wipe_G s is]; rfl
theorem wipe_L (s : L2.St) : ∀ is, L2.wipe s is = wipeG s is
  | [] => rfl
  | i :: is => by show (L2.wipe s is).set i none = _; rw [wipe_L s is]; rfl
section
variable {α : Type} {s : List (Option α)}
theorem wipeG_len : ∀ is, (wipeG s is).length = s.length
  | [] => rfl
  | i :: is => by show ((wipeG s is).set i none).length = _; rw [List.length_set, wipeG_len is]
theorem wipeG_comm {o : Option α} {i : Nat} : ∀ {is : List Nat}, i ∉ is → wipeG (s.set i o) is = (wipeG s is).set i o
  | [], _ => rfl
  | j :: is, h => by
    show (wipeG (s.set i o) is).set j none = ((wipeG s is).set j none).set i o
    rw [wipeG_comm fun z => h (List.mem_cons_of_mem _ z)]
    exact List.set_comm _ _ fun e => h (e ▸ List.mem_cons_self)
theorem wipeG_get {i : Nat} : ∀ {is : List Nat}, i ∉ is → (wipeG s is)[i]? = s[i]?
  | [], _ => rfl
  | j :: is, h => by
    show ((wipeG s is).set j none)[i]? = _
    rw [List.getElem?_set_ne (show j ≠ i from fun e => h (by rw [e]; exact List.mem_cons_self))]
    exact wipeG_get fun z => h (List.mem_cons_of_mem _ z)
theorem wipeG_mem {o : Option α} {i : Nat} : ∀ {is : List Nat}, i ∈ is → wipeG (s.set i o) is = wipeG s is
  | j :: is, h => by
    show (wipeG (s.set i o) is).set j none = (wipeG s is).set j none
    by_cases hm : i ∈ is
    · rw [wipeG_mem hm]
    · rw [wipeG_comm hm]
      have e : i = j := by
        rcases List.mem_cons.mp h with e | e
        · exact e
        · exact absurd e hm
      subst e
      exact List.set_set ..
end
section
variable {G : GI} {Wx : WX} {X : Cx} {f : ME → SL → HH → R O} {tf : ME → SL → HH → R Bool} {F F1 : Fz} {r r1 : List Addr} {H H1 : Hp} {R L L1 : List Addr} {σ : L2.St} {s s1 : SL} {h h1 : HH}
theorem RS.del (q : RS G F r H s σ L) (i : Nat) (x : Option V) : ∃ L', RS G F r H (s.set i Option.none) (σ.set i x) L' ∧ L'.Sublist L := by
  by_cases hi : i < s.length
  · obtain ⟨A, M, B, eL, rA, rB, _⟩ := q.split i hi
    exact ⟨A ++ B, RS.mkN hi q.len rA rB, by rw [eL]; exact (List.Sublist.refl A).append (List.sublist_append_right ..)⟩
  · rw [List.set_eq_of_length_le (by omega), List.set_eq_of_length_le (by rw [← q.len]; omega)]
    exact ⟨L, q, List.Sublist.refl _⟩
theorem RS.put (q : RS G F r H s σ L) (i : Nat) {w : W} {v : V} (p : RW G F r H w v) : ∃ L', RS G F r H (s.set i (Option.some (.sh w))) (σ.set i (Option.some v)) L' ∧ L'.Sublist L := by
  by_cases hi : i < s.length
  · obtain ⟨A, M, B, eL, rA, rB, _⟩ := q.split i hi
    exact ⟨A ++ ([] ++ B), RS.mk hi q.len rA rB (.sh p), by rw [eL]; exact (List.Sublist.refl A).append (List.sublist_append_right ..)⟩
  · rw [List.set_eq_of_length_le (by omega), List.set_eq_of_length_le (by rw [← q.len]; omega)]
    exact ⟨L, q, List.Sublist.refl _⟩
theorem RS.putN (q : RS G F r H s σ L) (i : Nat) {o : Option O} {x : Option V} (e : s[i]? = some none) (p : o = none ∨ ∃ w v, o = some (.sh w) ∧ x = some v ∧ RW G F r H w v) : RS G F r H (s.set i o) (σ.set i x) L := by
  have hi := (List.getElem?_eq_some_iff.mp e).1
  obtain ⟨A, M, B, eL, rA, rB, c⟩ := q.split i hi
  rcases c with ⟨_, eM⟩ | ⟨o', v, e1, _⟩
  · subst eM
    rcases p with rfl | ⟨w, v, rfl, rfl, p⟩
    · have z := RS.mkN (x := x) hi q.len rA rB
      rw [eL]; exact z
    · have z := RS.mk (M := []) hi q.len rA rB (RO.sh p)
      rw [eL]; exact z
  · rw [e] at e1; cases e1
theorem RS.wipe (q : RS G F r H s σ L) : ∀ is : List Nat, ∃ L', RS G F r H (wipeG s is) (wipeG σ is) L' ∧ L'.Sublist L
  | [] => ⟨L, q, List.Sublist.refl _⟩
  | i :: is => by
    obtain ⟨L1, q1, h1⟩ := RS.wipe q is
    obtain ⟨L2, q2, h2⟩ := q1.del i none
    exact ⟨L2, q2, h2.trans h1⟩
/-- what the own slots were -/
def ShF (G : GI) (F : Fz) (r : List Addr) (H : Hp) (s : SL) (σ : L2.St) (own : List Nat) : Prop := ∀ i ∈ own, i < s.length ∧ (s[i]? = some none ∨ ∃ w v, s[i]? = some (some (.sh w)) ∧ σ[i]? = some (some v) ∧ RW G F r H w v)
theorem ShF.of (q : RS G F r H s σ L) : ∀ {own : List Nat}, shOk s own = true → ShF G F r H s σ own
  | [], _, i, hi => by cases hi
  | j :: own, e, i, hi => by
    simp only [shOk, Bool.and_eq_true] at e
    rcases List.mem_cons.mp hi with rfl | hi
    · obtain ⟨e, _⟩ := e
      split at e
      · rename_i ej; exact ⟨(List.getElem?_eq_some_iff.mp ej).1, .inl ej⟩
      · rename_i w ej
        have hj := (List.getElem?_eq_some_iff.mp ej).1
        refine ⟨hj, .inr ?_⟩
        obtain ⟨A, M, B, eL, rA, rB, c⟩ := q.split i hj
        rcases c with ⟨e1, _⟩ | ⟨o', v, e1, e2, ro⟩
        · rw [ej] at e1; cases e1
        · rw [ej] at e1
          cases e1
          cases ro with
          | sh ro => exact ⟨w, v, ej, e2, ro⟩
      · cases e
    · exact ShF.of q e.2 i hi
theorem ShF.mono (l : Le F r H F1 r1 H1) {own : List Nat} (q : ShF G F r H s σ own) : ShF G F1 r1 H1 s σ own := fun i hi => by
  obtain ⟨h1, h2⟩ := q i hi
  exact ⟨h1, h2.imp id fun ⟨w, v, a, b, c⟩ => ⟨w, v, a, b, c.mono l⟩⟩
theorem RS.wipeS (q : RS G F r H s σ L) : ∀ {own : List Nat}, ShF G F r H s σ own → own.Nodup → RS G F r H (wipeG s own) (wipeG σ own) L
  | [], _, _ => q
  | i :: is, hs, nd => by
    have ih := RS.wipeS q (own := is) (fun j hj => hs j (List.mem_cons_of_mem _ hj)) (List.nodup_cons.mp nd).2
    obtain ⟨hi, c⟩ := hs i List.mem_cons_self
    have eg := wipeG_get (s := s) (List.nodup_cons.mp nd).1
    obtain ⟨A, M, B, eL, rA, rB, c2⟩ := ih.split i (by rw [wipeG_len]; exact hi)
    have eM : M = [] := by
      rcases c2 with ⟨_, e⟩ | ⟨o, v, e1, _, ro⟩
      · exact e
      · rw [eg] at e1
        rcases c with e | ⟨w, v', e, _⟩
        · rw [e1] at e; cases e
        · rw [e1] at e; cases e; cases ro; rfl
    subst eM
    have z := RS.mkN (x := none) (by rw [wipeG_len]; exact hi) ih.len rA rB
    rw [eL]; exact z
theorem unwipe_rs {s0 : SL} : ∀ {own : List Nat} {s : SL}, RS G F r H (wipeG s own) (wipeG σ own) L → ShF G F r H s0 σ own → own.Nodup → s.length = s0.length → RS G F r H (unwipe s0 own s) σ L
  | [], s, q, _, _, _ => q
  | i :: is, s, q, hs, nd, hl => by
    obtain ⟨hi, c⟩ := hs i List.mem_cons_self
    have ni := (List.nodup_cons.mp nd).1
    show RS G F r H (unwipe s0 is (s.set i (s0.getD i none))) σ L
    refine unwipe_rs ?_ (fun j hj => hs j (List.mem_cons_of_mem _ hj)) (List.nodup_cons.mp nd).2 (by rw [List.length_set]; exact hl)
    rw [wipeG_comm ni]
    have q : RS G F r H ((wipeG s is).set i none) ((wipeG σ is).set i none) L := q
    have hi2 : i < (wipeG s is).length := by rw [wipeG_len, hl]; exact hi
    have hlen : s.length = σ.length := by
      have := q.len
      rw [List.length_set, List.length_set, wipeG_len, wipeG_len] at this
      exact this
    have hx : ∃ x, σ[i]? = some x := ⟨_, List.getElem?_eq_getElem (by rw [← hlen, hl]; exact hi)⟩
    obtain ⟨x, ex⟩ := hx
    have z := q.putN i (o := s0.getD i none) (x := x) (by rw [List.getElem?_set_self hi2]) (by
      rcases c with e | ⟨w, v, e1, e2, p⟩
      · left; rw [List.getD_eq_getElem?_getD, e]; rfl
      · right
        rw [ex] at e2
        cases e2
        exact ⟨w, v, by rw [List.getD_eq_getElem?_getD, e1]; rfl, rfl, p⟩)
    rw [List.set_set, List.set_set] at z
    rw [set_get (l := wipeG σ is) (by rw [wipeG_get ni]; exact ex)] at z
    exact z
/-! ### targets -/
def tgIds : Tg → List Nat
  | .one i => [i]
  | .many is => is
  | .skip => []
def gMany : List Nat → TGs
  | [] => gNil
  | i :: is => gCons (gName i) (gMany is)
def gTg (K : PySem.W.Frag) : Tg → TG
  | .one i => gName i
  | .many is => gTup K is.length (gMany is)
  | .skip => fun _ _ _ _ => False
theorem w_many : ∀ {is : List Nat} {ws : List W} {vs : List V} {σ : L2.St} {s s' : SL} {L : List Addr} {Q : L2.St → Hp → Prop}, RS G F r H s σ L → RWs G F r H ws vs → setMany s is ws = some s' →
    (∀ σ' L', RS G F r H s' σ' L' → L'.Sublist L → (∀ own : List Nat, (∀ i ∈ is, i ∈ own) → wipeG σ' own = wipeG σ own) → s'.length = s.length → Q σ' H) → gMany is vs σ H Q
  | [], [], vs, σ, s, s', L, Q, q, p, e, k => by
    cases p
    cases e
    exact ⟨rfl, k σ L q (List.Sublist.refl _) (fun _ _ => rfl) rfl⟩
  | i :: is, w :: ws, _, σ, s, s', L, Q, q, .cons (v := v) (vs := vs) p ps, e, k => by
    obtain ⟨L1, q1, h1⟩ := q.put i p
    refine ⟨v, vs, rfl, w_many q1 ps e fun σ' L' q' h' hw hl => k σ' L' q' (h'.trans h1) (fun own ho => ?_) (by rw [hl, List.length_set])⟩
    rw [hw own fun j hj => ho j (List.mem_cons_of_mem _ hj), wipeG_mem (ho i List.mem_cons_self)]
  | [], _ :: _, _, _, _, _, _, _, _, _, e, _ => by cases e
  | _ :: _, [], _, _, _, _, _, _, _, _, e, _ => by cases e
theorem setMany_len : ∀ {is : List Nat} {ws : List W} {s s' : SL}, setMany s is ws = some s' → ws.length = is.length
  | [], [], _, _, _ => rfl
  | _ :: is, _ :: ws, _, _, e => by simp [setMany_len (is := is) (ws := ws) e]
  | [], _ :: _, _, _, e => by cases e
  | _ :: _, [], _, _, e => by cases e
theorem w_tg {K : PySem.W.Frag} {tg : Tg} {w : W} {v : V} {s' : SL} {Q : L2.St → Hp → Prop} (q : RS G F r H s σ L) (p : RW G F r H w v) (e : setTg s tg w = some s') (hk : tg ≠ .skip)
    (k : ∀ σ' L', RS G F r H s' σ' L' → L'.Sublist L → (∀ own : List Nat, (∀ i ∈ tgIds tg, i ∈ own) → wipeG σ' own = wipeG σ own) → s'.length = s.length → Q σ' H) : gTg K tg v σ H Q := by
  cases tg with
  | one i =>
    cases e
    obtain ⟨L1, q1, h1⟩ := q.put i p
    exact k _ L1 q1 h1 (fun own ho => wipeG_mem (ho i List.mem_cons_self)) (by rw [List.length_set])
  | many is =>
    cases w with
    | tup ws =>
      have e : setMany s is ws = some s' := e
      cases p with
      | tup hp ps => exact ⟨_, _, rfl, .of hp, by rw [← ps.len, setMany_len e], w_many q ps e k⟩
    | _ => cases e
  | skip => exact absurd rfl hk
end
end Mini
set_option Elab.async false
set_option linter.all false
set_option maxRecDepth 100000
set_option maxHeartbeats 1000000
/-! Mini: walks. -/
namespace Mini
open PySem L2
mutual
theorem same_eq : ∀ {x y : W}, same x y = true → x = y
  | .non, y, h => by cases y <;> first | rfl | cases h
  | .bl a, y, h => by
    cases y with
    | bl b => rw [beq_iff_eq.mp (show (a == b) = true from h)]
    | _ => cases h
  | .int a, y, h => by
    cases y with
    | int b => rw [of_decide_eq_true (show decide (a = b) = true from h)]
    | _ => cases h
  | .str a, y, h => by
    cases y with
    | str b => rw [of_decide_eq_true (show decide (a = b) = true from h)]
    | _ => cases h
  | .tup a, y, h => by
    cases y with
    | tup b => rw [sames_eq (show sames a b = true from h)]
    | _ => cases h
  | .lst a, y, h => by
    cases y with
    | lst b => rw [sames_eq (show sames a b = true from h)]
    | _ => cases h
  | .dic t ks xs, y, h => by
    cases y with
    | dic u js ys =>
      have h : ((t == u) && (sames ks js && sames xs ys)) = true := h
      simp only [Bool.and_eq_true] at h
      rw [beq_iff_eq.mp h.1, sames_eq h.2.1, sames_eq h.2.2]
    | _ => cases h
  | .hp a, y, h => by
    cases y with
    | hp b => rw [of_decide_eq_true (show decide (a = b) = true from h)]
    | _ => cases h
  | .fn a, y, h => by
    cases y with
    | fn b => rw [of_decide_eq_true (show decide (a = b) = true from h)]
    | _ => cases h
  | .clo a cs, y, h => by
    cases y with
    | clo b ds =>
      have h : (decide (a = b) && decide (cs = ds)) = true := h
      simp only [Bool.and_eq_true, decide_eq_true_eq] at h
      rw [h.1, h.2]
    | _ => cases h
  | .ks a, y, h => by
    cases y with
    | ks b => rw [sames_eq (show sames a b = true from h)]
    | _ => cases h
  | .opq a, y, h => by
    cases y with
    | opq b => rw [of_decide_eq_true (show decide (a = b) = true from h)]
    | _ => cases h
theorem sames_eq : ∀ {x y : List W}, sames x y = true → x = y
  | [], [], _ => rfl
  | x :: xs, y :: ys, h => by
    have h : (same x y && sames xs ys) = true := h
    simp only [Bool.and_eq_true] at h
    rw [same_eq h.1, sames_eq h.2]
  | [], _ :: _, h => by cases h
  | _ :: _, [], h => by cases h
end
/-- the list at a: frozen, or one of the heap that is looked at again and again -/
def LAt (G : GI) (F : Fz) (r : List Addr) (H : Hp) (a : Addr) (k : Wk) : Prop :=
  (∃ vs, F a ∧ H a = some (.lst vs) ∧ RWs G F r H k.ws vs ∧ k.gs = []) ∨ ∃ i, r[i]? = some a ∧ k.gs = [(i, k.ws)]
theorem guard_app {g1 g2 : List (Nat × List W)} {h : HH} (e : guard (g1 ++ g2) h = true) : guard g1 h = true ∧ guard g2 h = true := by
  unfold guard at e ⊢
  rw [List.all_append, Bool.and_eq_true] at e
  exact e
theorem LAt.see {G : GI} {F F1 : Fz} {r r1 : List Addr} {H H1 : Hp} {a : Addr} {k : Wk} {hh : HH} {R : List Addr} (q : LAt G F r H a k) (l : Le F r H F1 r1 H1) (wi : WI G F1 r1 H1 hh R) (g : guard k.gs hh = true) : ∃ vs, H1 a = some (.lst vs) ∧ RWs G F1 r1 H1 k.ws vs := by
  rcases q with ⟨vs, fa, e, q, _⟩ | ⟨i, e, eg⟩
  · exact ⟨vs, (l.k _ fa).trans e, q.mono l⟩
  · rw [eg] at g
    have g : ((match hh[i]? with
      | some (.lst xs) => sames xs k.ws
      | _ => false) && true) = true := g
    rw [Bool.and_true] at g
    split at g
    · rename_i xs eh
      obtain ⟨⟨L, h1, _⟩, _⟩ := wi
      obtain ⟨vs, e1, e2, _⟩ := h1.get eh (l.at e)
      rw [sames_eq g] at e2
      exact ⟨vs, e1, e2⟩
    · cases g
theorem walk_listE {K : PySem.W.Frag} {a : Addr} {n : Nat} : Walk (Itl K a) n (fun H => ∃ vs, H a = some (.lst vs) ∧ vs.length = n) (fun i H x H' => H' = H ∧ ∀ vs, H a = some (.lst vs) → vs[i]? = some x) :=
  ⟨fun i H hi ⟨vs, e, el⟩ => ⟨vs, vs[i]'(by omega), .of e, by simp [show i < vs.length by omega]⟩, fun H ⟨vs, e, el⟩ => ⟨vs, .of e, by omega⟩, fun i H x H' hi q y => ⟨y.1, fun vs e => y.2 vs (.of e)⟩⟩
theorem walk_enumE {K : PySem.W.Frag} {a : Addr} {n : Nat} : Walk (Ite K a) n (fun H => ∃ vs, H a = some (.lst vs) ∧ vs.length = n) (fun i H v H' => ∃ T x, v = .ref T ∧ H T = none ∧ H' = upd H T (.tup [.int (i : Nat), x]) ∧ ∀ vs, H a = some (.lst vs) → vs[i]? = some x) :=
  ⟨fun i H hi ⟨vs, e, el⟩ => ⟨vs, vs[i]'(by omega), .of e, by simp [show i < vs.length by omega]⟩, fun H ⟨vs, e, el⟩ => ⟨vs, .of e, by omega⟩, fun i H v H' hi q ⟨T, x, h1, h2, h3, h4⟩ => ⟨T, x, h1, h2, h3, fun vs e => h4 vs (.of e)⟩⟩
theorem walk_zipE {K : PySem.W.Frag} {a b : Addr} {n m : Nat} : Walk (Itz K a b) (min n m) (fun H => (∃ vs, H a = some (.lst vs) ∧ vs.length = n) ∧ ∃ us, H b = some (.lst us) ∧ us.length = m)
    (fun i H v H' => ∃ T x y, v = .ref T ∧ H T = none ∧ H' = upd H T (.tup [x, y]) ∧ (∀ vs, H a = some (.lst vs) → vs[i]? = some x) ∧ ∀ us, H b = some (.lst us) → us[i]? = some y) :=
  ⟨fun i H hi ⟨⟨vs, e, el⟩, us, e2, el2⟩ => ⟨vs, us, vs[i]'(by omega), us[i]'(by omega), .of e, .of e2, by simp [show i < vs.length by omega], by simp [show i < us.length by omega]⟩, fun H ⟨⟨vs, e, el⟩, us, e2, el2⟩ => ⟨vs, us, .of e, .of e2, by omega⟩,
    fun i H v H' hi q ⟨T, x, y, h1, h2, h3, h4, h5⟩ => ⟨T, x, y, h1, h2, h3, fun vs e => h4 vs (.of e), fun us e => h5 us (.of e)⟩⟩
/-- what a walk gives -/
def Tn (G : GI) (F : Fz) (r : List Addr) (H : Hp) (J : It) (k : Wk) : Prop := ∃ n Gs Y, Walk J n Gs Y ∧ n = k.ws.length ∧ (∀ F2 r2 H2 hh R, Le F r H F2 r2 H2 → WI G F2 r2 H2 hh R → guard k.gs hh = true → Gs H2) ∧
  ∀ i w F1 r1 H1 x H2 hh R, Le F r H F1 r1 H1 → WI G F1 r1 H1 hh R → guard k.gs hh = true → Y i H1 x H2 → k.ws[i]? = some w → Le F1 r1 H1 F1 r1 H2 ∧ (∀ b, H1 b ≠ none → H2 b = H1 b) ∧ WI G F1 r1 H2 hh R ∧ RW G F1 r1 H2 w x
section
variable (G : GI) (Wx : WX)
def TMi (g : SL → HH → R Wk) : TI := fun σ H Q => ∃ F r s h L R, At G F r H R σ s h L ∧ Out (g s h) (fun k s' h' => ∀ F' r' H' L' J, Bh G F r H R σ F' r' H' L' s' → WI G F' r' H' h' (L' ++ R) → Tn G F' r' H' J k → Q J H') (EK G Wx F r H R σ)
end
section
variable {G : GI} {Wx : WX} {X : Cx} {f : ME → SL → HH → R O} {tf : ME → SL → HH → R Bool} {F F1 : Fz} {r r1 : List Addr} {H H1 : Hp} {R L L1 : List Addr} {σ : L2.St} {s s1 : SL} {h h1 : HH}
theorem RWs.getV {xs : List W} {vs : List V} {i : Nat} {x : W} {v : V} (q : RWs G F r H xs vs) (e : xs[i]? = some x) (e2 : vs[i]? = some v) : RW G F r H x v := by
  obtain ⟨u, h1, h2⟩ := q.get e
  rw [e2] at h1
  cases h1
  exact h2
theorem tn_list {K : PySem.W.Frag} {a : Addr} {k : Wk} (q : LAt G F r H a k) : Tn G F r H (Itl K a) k :=
  ⟨k.ws.length, _, _, walk_listE, rfl, fun F2 r2 H2 hh R l wi g => let ⟨vs, e, q2⟩ := q.see l wi g; ⟨vs, e, q2.len.symm⟩, fun i w F1 r1 H1 x H2 hh R l wi g y ew => by
    obtain ⟨rfl, ey⟩ := y
    obtain ⟨vs, e, q2⟩ := q.see l wi g
    exact ⟨Le.refl _ _ _, fun _ _ => rfl, wi, q2.getV ew (ey vs e)⟩⟩
theorem tn_tup {K : PySem.W.Frag} {a : Addr} {xs : List W} {vs : List V} (e : H a = some (.tup vs)) (q : RWs G F r H xs vs) : Tn G F r H (Itt K a) ⟨xs, []⟩ :=
  ⟨vs.length, _, _, walk_tup (xs := vs), q.len.symm, fun F2 r2 H2 hh R l _ _ => .of (l.t _ _ e), fun i w F1 r1 H1 x H2 hh R l wi g y ew => by
    obtain ⟨rfl, ey⟩ := y
    exact ⟨Le.refl _ _ _, fun _ _ => rfl, wi, (q.mono l).getV ew ey⟩⟩
theorem rngW_len (c : Int) : ∀ (n : Nat) (a : Int), (rngW a c n).length = n
  | 0, _ => rfl
  | n + 1, a => by simp [rngW, rngW_len c n]
theorem rngW_get (c : Int) : ∀ (n : Nat) (a : Int) (i : Nat) (w : W), (rngW a c n)[i]? = some w → w = .int (a + (i : Int) * c)
  | 0, _, i, w, e => by simp [rngW] at e
  | n + 1, a, 0, w, e => by simp [rngW] at e; subst e; simp
  | n + 1, a, i + 1, w, e => by
    have := rngW_get c n (a + c) i w (by simpa [rngW] using e)
    rw [this]
    congr 1
    rw [Int.add_assoc]
    congr 1
    rw [show ((i + 1 : Nat) : Int) = (i : Int) + 1 from by omega, Int.add_mul, Int.one_mul, Int.add_comm]
theorem tn_range {lo : Int} {n : Nat} : Tn G F r H (Itr lo n) ⟨rngW lo 1 n, []⟩ :=
  ⟨n, _, _, walk_range, (rngW_len 1 n lo).symm, fun _ _ _ _ _ _ _ _ => trivial, fun i w F1 r1 H1 x H2 hh R l wi g y ew => by
    obtain ⟨rfl, rfl⟩ := y
    have := rngW_get 1 n lo i w ew
    subst this
    refine ⟨Le.refl _ _ _, fun _ _ => rfl, wi, ?_⟩
    rw [show lo + (i : Int) * 1 = lo + i from by omega]
    exact .int _⟩
theorem tn_down {lo : Int} {n : Nat} : Tn G F r H (Itc lo (-1) n) ⟨rngW lo (-1) n, []⟩ :=
  ⟨n, _, _, walk_rangeC, (rngW_len (-1) n lo).symm, fun _ _ _ _ _ _ _ _ => trivial, fun i w F1 r1 H1 x H2 hh R l wi g y ew => by
    obtain ⟨rfl, rfl⟩ := y
    have := rngW_get (-1) n lo i w ew
    subst this
    exact ⟨Le.refl _ _ _, fun _ _ => rfl, wi, .int _⟩⟩
theorem tn_pair {w1 w2 : W} {v1 v2 : V} {T : Addr} {hh : HH} (wi : WI G F r H hh R) (hT : H T = none) (q1 : RW G F r H w1 v1) (q2 : RW G F r H w2 v2) :
    Le F r H F r (upd H T (.tup [v1, v2])) ∧ (∀ b, H b ≠ none → upd H T (.tup [v1, v2]) b = H b) ∧ WI G F r (upd H T (.tup [v1, v2])) hh R ∧ RW G F r (upd H T (.tup [v1, v2])) (.tup [w1, w2]) (.ref T) := by
  have l := Le.new wi hT (.tup [v1, v2])
  exact ⟨l, fun b hb => upd_ne fun e => hb (e ▸ hT), wi.newT hT _, .tup upd_same (.cons (q1.mono l) (.cons (q2.mono l) .nil))⟩
theorem enumW_len : ∀ (xs : List W) (n : Nat), (enumW n xs).length = xs.length
  | [], _ => rfl
  | x :: xs, n => by simp [enumW, enumW_len xs]
theorem enumW_get : ∀ (xs : List W) (n i : Nat) (w : W), (enumW n xs)[i]? = some w → ∃ x, xs[i]? = some x ∧ w = .tup [.int (n + i : Nat), x]
  | [], n, i, w, e => by simp [enumW] at e
  | x :: xs, n, 0, w, e => by simp [enumW] at e; subst e; exact ⟨x, rfl, rfl⟩
  | x :: xs, n, i + 1, w, e => by
    obtain ⟨y, h1, h2⟩ := enumW_get xs (n + 1) i w (by simpa [enumW] using e)
    exact ⟨y, by simpa using h1, by rw [h2, show n + 1 + i = n + (i + 1) from by omega]⟩
theorem tn_enum {K : PySem.W.Frag} {a : Addr} {k : Wk} (q : LAt G F r H a k) : Tn G F r H (Ite K a) ⟨enumW 0 k.ws, k.gs⟩ :=
  ⟨k.ws.length, _, _, walk_enumE, (enumW_len _ _).symm, fun F2 r2 H2 hh R l wi g => let ⟨vs, e, q2⟩ := q.see l wi g; ⟨vs, e, q2.len.symm⟩, fun i w F1 r1 H1 x H2 hh R l wi g y ew => by
    obtain ⟨T, x1, rfl, hT, rfl, e2⟩ := y
    obtain ⟨w2, ew2, rfl⟩ := enumW_get k.ws 0 i w ew
    obtain ⟨vs, e, q2⟩ := q.see l wi g
    have z := tn_pair wi hT (.int ((i : Nat) : Int)) (q2.getV ew2 (e2 vs e))
    rw [show (0 + i : Nat) = i from by omega]
    exact z⟩
theorem zipW_len : ∀ (xs ys : List W), (zipW xs ys).length = min xs.length ys.length
  | [], ys => by simp [zipW]
  | _ :: _, [] => by simp [zipW]
  | x :: xs, y :: ys => by simp [zipW, zipW_len xs ys]
theorem zipW_get : ∀ (xs ys : List W) (i : Nat) (w : W), (zipW xs ys)[i]? = some w → ∃ x y, xs[i]? = some x ∧ ys[i]? = some y ∧ w = .tup [x, y]
  | [], ys, i, w, e => by simp [zipW] at e
  | _ :: _, [], i, w, e => by simp [zipW] at e
  | x :: xs, y :: ys, 0, w, e => by simp [zipW] at e; subst e; exact ⟨x, y, rfl, rfl, rfl⟩
  | x :: xs, y :: ys, i + 1, w, e => by
    obtain ⟨a, b, h1, h2, h3⟩ := zipW_get xs ys i w (by simpa [zipW] using e)
    exact ⟨a, b, by simpa using h1, by simpa using h2, h3⟩
theorem tn_zip {K : PySem.W.Frag} {a b : Addr} {k m : Wk} (q : LAt G F r H a k) (p : LAt G F r H b m) : Tn G F r H (Itz K a b) ⟨zipW k.ws m.ws, k.gs ++ m.gs⟩ :=
  ⟨min k.ws.length m.ws.length, _, _, walk_zipE (n := k.ws.length) (m := m.ws.length), (zipW_len _ _).symm, fun F2 r2 H2 hh R l wi g => by
    obtain ⟨vs, e, q2⟩ := q.see l wi (guard_app g).1
    obtain ⟨us, e2, p2⟩ := p.see l wi (guard_app g).2
    exact ⟨⟨vs, e, q2.len.symm⟩, us, e2, p2.len.symm⟩, fun i w F1 r1 H1 x H2 hh R l wi g y ew => by
    obtain ⟨T, x1, y1, rfl, hT, rfl, e1, e2⟩ := y
    obtain ⟨w1, w2, ew1, ew2, rfl⟩ := zipW_get k.ws m.ws i w ew
    obtain ⟨vs, e, q2⟩ := q.see l wi (guard_app g).1
    obtain ⟨us, e3, p2⟩ := p.see l wi (guard_app g).2
    exact tn_pair wi hT (q2.getV ew1 (e1 vs e)) (p2.getV ew2 (e2 us e3))⟩
theorem walk_zipT {K : PySem.W.Frag} {a b : Addr} {xs ys : List V} {n : Nat} (hn : n = min xs.length ys.length) : Walk (RZ.ItzT K a b) n (fun H => SqT K H a xs ∧ SqT K H b ys) (YPair (fun i => xs[i]?) (fun i => ys[i]?)) := by
  subst hn
  refine ⟨fun i _ hi q => ?_, fun _ q => ⟨xs, ys, q.1, q.2, by omega⟩, fun i H v H' _ q y => ?_⟩
  · have k1 : i < xs.length := by omega
    have k2 : i < ys.length := by omega
    exact ⟨xs, ys, xs[i], ys[i], q.1, q.2, by simp [k1], by simp [k2]⟩
  · obtain ⟨T, x, z, k1, k2, k3, k4, k5⟩ := y
    exact ⟨T, x, z, k1, k2, k3, k4 xs q.1, k5 ys q.2⟩
theorem tn_zipT {K : PySem.W.Frag} {a b : Addr} {xs ys : List W} {vs us : List V} (e : H a = some (.tup vs)) (q : RWs G F r H xs vs) (e2 : H b = some (.tup us)) (p : RWs G F r H ys us) : Tn G F r H (RZ.ItzT K a b) ⟨zipW xs ys, []⟩ :=
  ⟨min vs.length us.length, _, _, walk_zipT (xs := vs) (ys := us) rfl, by show _ = (zipW xs ys).length; rw [zipW_len, q.len, p.len], fun F2 r2 H2 hh R l _ _ => ⟨.of (l.t _ _ e), .of (l.t _ _ e2)⟩, fun i w F1 r1 H1 x H2 hh R l wi g y ew => by
    obtain ⟨T, x1, y1, rfl, hT, rfl, e1, e2⟩ := y
    obtain ⟨w1, w2, ew1, ew2, rfl⟩ := zipW_get xs ys i w ew
    exact tn_pair wi hT ((q.mono l).getV ew1 e1) ((p.mono l).getV ew2 e2)⟩
/-! ### iterators -/
theorem lk_list {w : W} {v : V} {k : Wk} (wi : WI G F r H h R) (q : RW G F r H w v) (e : lkL h w = some k) : ∃ a vs, v = .ref a ∧ H a = some (.lst vs) ∧ LAt G F r H a k := by
  cases w with
  | lst xs =>
    cases e
    cases q with
    | lst fa ea qa => exact ⟨_, _, rfl, ea, .inl ⟨_, fa, ea, qa, rfl⟩⟩
  | hp i =>
    have e : (match h[i]? with
      | some (.lst xs) => some (Wk.mk xs [(i, xs)])
      | _ => none) = some k := e
    split at e
    · rename_i xs eh
      cases e
      cases q with
      | hp er =>
        obtain ⟨⟨L, h1, _⟩, _⟩ := wi
        obtain ⟨vs, e1, e2, _⟩ := h1.get eh er
        exact ⟨_, vs, rfl, e1, .inr ⟨i, er, rfl⟩⟩
    · cases e
  | _ => cases e
theorem pi_mseq {tg e : Expr} {m : ME} (he : PE X e (TM G Wx (f m))) : PI X tg e (TMi G Wx fun s h => (f m s h).bind fun o s h => ofO (lkW h o.toW) s h) := by
  refine ⟨fun pins s σ H Q I hq => ?_⟩
  obtain ⟨F, r, s0, h, L, R, a0, out⟩ := hq
  have o0 := Out.cases out
  cases ed : f m s0 h with
  | fail => rw [ed] at o0; exact o0.elim
  | exc c ws s1 h1 =>
    rw [ed] at o0
    exact (pi_list (tg := tg) he).run pins s σ H Q I ⟨F, r, s0, h, L, R, a0, by rw [ed]; exact o0⟩
  | ok o s1 h1 =>
    rw [ed] at o0
    obtain ⟨k, e3, o3⟩ := Out.ofO (show Out (ofO (lkW h1 o.toW) s1 h1) _ _ from o0)
    by_cases ht : ∃ xs, o.toW = .tup xs
    · obtain ⟨xs, ew⟩ := ht
      refine (pi_tup (tg := tg) he).run pins s σ H Q I ⟨F, r, s0, h, L, R, a0, ?_⟩
      rw [ed]
      intro F1 r1 H1 L1 x M b1 ro wi1
      rw [ew] at e3
      cases e3
      have q := ro.shareM
      rw [ew] at q
      cases q with
      | tup ea qa => exact ⟨_, rfl, ⟨_, .of ea⟩, o3 _ r1 H1 L1 _ b1.share wi1.share (tn_tup ea qa)⟩
    · have e4 : lkL h1 o.toW = some k := by
        cases ew : o.toW with
        | tup xs => exact absurd ⟨xs, ew⟩ ht
        | _ => rw [ew] at e3; exact e3
      refine (pi_list (tg := tg) he).run pins s σ H Q I ⟨F, r, s0, h, L, R, a0, ?_⟩
      rw [ed]
      intro F1 r1 H1 L1 x M b1 ro wi1
      obtain ⟨a, vs, rfl, ea, la⟩ := lk_list wi1.share ro.shareM e4
      exact ⟨_, rfl, ⟨_, .of ea⟩, o3 _ r1 H1 L1 _ b1.share wi1.share (tn_list la)⟩
theorem VWs.int1 {i : Int} {vs : List V} (q : VWs G F r H [.int i] vs) : vs = [.int i] := by
  obtain ⟨v, e, q⟩ := q.one
  rw [e, q.int]
theorem VWs.int2 {i j : Int} {vs : List V} (q : VWs G F r H [.int i, .int j] vs) : vs = [.int i, .int j] := by
  obtain ⟨v, u, e, q, p⟩ := q.two
  rw [e, q.int, p.int]
theorem VWs.int3 {i j k : Int} {vs : List V} (q : VWs G F r H [.int i, .int j, .int k] vs) : vs = [.int i, .int j, .int k] := by
  cases q with
  | cons a b =>
    have := b.int2
    subst this
    rw [a.int]
theorem pi_mrng1 {tg e : Expr} {m : ME} {p pos : Pos} (hg : Gl X "range") (hm : X.mg "range" = none) (hp : plainE e = true) (ha : PA X [e] (TMds G Wx (evDs f [m]))) : PI X tg (.Call (.Name "range" p) [e] [] pos) (TMi G Wx fun s h => (evDs f [m] s h).bind fun ds s h => match getDs s h ds with
    | some [.int n] => if rgOk n then .ok ⟨rangeW 0 n 1, []⟩ s h else .fail
    | _ => .fail) := by
  refine ⟨fun pins s σ H Q I hq => (pi_range1 (tg := tg) hg hm ha (plain_star hp)).run pins s σ H Q I ?_⟩
  obtain ⟨F, r, s0, h, L, R, a0, out⟩ := hq
  refine ⟨F, r, s0, h, L, R, a0, (Out.cases out).mono (fun ds s1 h1 o1 => ?_) (fun _ _ _ _ z => z)⟩
  intro F1 r1 H1 L1 vs b1 rds wi1
  split at o1
  · rename_i n e1
    split at o1
    · rename_i hn
      have := (RDs.views (b1.at wi1) rds e1).int1
      subst this
      have hz := rgOk_ok hn
      refine ⟨n, rfl, hz.1, hz.2, o1 F1 r1 H1 L1 _ b1 wi1 ?_⟩
      have : rangeW 0 n 1 = rngW 0 1 n.toNat := by simp [rangeW, turns]
      rw [this]
      exact tn_range
    · exact o1.elim
  · exact o1.elim
theorem pi_mrng2 {tg e e2 : Expr} {m m2 : ME} {p pos : Pos} (hg : Gl X "range") (hm : X.mg "range" = none) (hp : plainE e = true) (hp2 : plainE e2 = true) (ha : PA X [e, e2] (TMds G Wx (evDs f [m, m2]))) : PI X tg (.Call (.Name "range" p) [e, e2] [] pos) (TMi G Wx fun s h => (evDs f [m, m2] s h).bind fun ds s h => match getDs s h ds with
    | some [.int i, .int j] => if rgOk i && rgOk j then .ok ⟨rangeW i j 1, []⟩ s h else .fail
    | _ => .fail) := by
  refine ⟨fun pins s σ H Q I hq => (pi_range2 (tg := tg) hg hm ha (by rw [plain_star hp, plain_star hp2]; rfl) (plain_star hp2)).run pins s σ H Q I ?_⟩
  obtain ⟨F, r, s0, h, L, R, a0, out⟩ := hq
  refine ⟨F, r, s0, h, L, R, a0, (Out.cases out).mono (fun ds s1 h1 o1 => ?_) (fun _ _ _ _ z => z)⟩
  intro F1 r1 H1 L1 vs b1 rds wi1
  split at o1
  · rename_i i j e1
    split at o1
    · rename_i hn
      simp only [Bool.and_eq_true] at hn
      have := (RDs.views (b1.at wi1) rds e1).int2
      subst this
      have hz := rgOk_ok hn.1
      have hz2 := rgOk_ok hn.2
      refine ⟨i, j, rfl, ⟨hz.1, hz.2, hz2.1, hz2.2⟩, o1 F1 r1 H1 L1 _ b1 wi1 ?_⟩
      have : rangeW i j 1 = rngW i 1 (j - i).toNat := by simp [rangeW, turns]
      rw [this]
      exact tn_range
    · exact o1.elim
  · exact o1.elim
theorem pi_mrng3 {tg e e2 e3 : Expr} {m m2 m3 : ME} {p pos : Pos} (hg : Gl X "range") (hm : X.mg "range" = none) (hp : plainE e = true) (hp2 : plainE e2 = true) (hp3 : plainE e3 = true) (ha : PA X [e, e2, e3] (TMds G Wx (evDs f [m, m2, m3]))) : PI X tg (.Call (.Name "range" p) [e, e2, e3] [] pos) (TMi G Wx fun s h => (evDs f [m, m2, m3] s h).bind fun ds s h => match getDs s h ds with
    | some [.int i, .int j, .int k] => if rgOk i && rgOk j && decide (k = -1) then .ok ⟨rangeW i j (-1), []⟩ s h else .fail
    | _ => .fail) := by
  refine ⟨fun pins s σ H Q I hq => (pi_range3 (tg := tg) hg hm ha (plain_star hp) (by rw [plain_star hp2, plain_star hp3]; rfl)).run pins s σ H Q I ?_⟩
  obtain ⟨F, r, s0, h, L, R, a0, out⟩ := hq
  refine ⟨F, r, s0, h, L, R, a0, (Out.cases out).mono (fun ds s1 h1 o1 => ?_) (fun _ _ _ _ z => z)⟩
  intro F1 r1 H1 L1 vs b1 rds wi1
  split at o1
  · rename_i i j k e1
    split at o1
    · rename_i hn
      simp only [Bool.and_eq_true, decide_eq_true_eq] at hn
      have := (RDs.views (b1.at wi1) rds e1).int3
      subst this
      have hz := rgOk_ok hn.1.1
      have hz2 := rgOk_ok hn.1.2
      have hk := hn.2
      subst hk
      refine ⟨i, j, -1, (i - j).toNat, rfl, RgC.neg hz.1 hz.2 hz2.1 hz2.2, o1 F1 r1 H1 L1 _ b1 wi1 ?_⟩
      have : rangeW i j (-1) = rngW i (-1) (i - j).toNat := by simp [rangeW, turns]
      rw [this]
      exact tn_down
    · exact o1.elim
  · exact o1.elim
theorem lkZ_cases {h : HH} {ws : List W} {k : Wk} (e : lkZ h ws = some k) : (∃ xs ys, ws = [.tup xs, .tup ys] ∧ k = ⟨zipW xs ys, []⟩) ∨ ∃ a b x y, ws = [a, b] ∧ lkL h a = some x ∧ lkL h b = some y ∧ k = ⟨zipW x.ws y.ws, x.gs ++ y.gs⟩ := by
  unfold lkZ at e
  split at e
  · cases e; exact .inl ⟨_, _, rfl, rfl⟩
  · split at e
    · rename_i x y e1 e2
      cases e
      exact .inr ⟨_, _, x, y, rfl, e1, e2, rfl⟩
    · cases e
  · cases e
theorem pi_mzip {e e2 : Expr} {m m2 : ME} {elts : List Expr} {kk : Nat} {tpos p pos : Pos} (hg : Gl X "zip") (hm : X.mg "zip" = none) (hp : plainE e = true) (hp2 : plainE e2 = true) (ha : PA X [e, e2] (TMs G Wx (evL f [m, m2]))) : PI X (.Tuple elts kk tpos) (.Call (.Name "zip" p) [e, e2] [] pos) (TMi G Wx fun s h => (evL f [m, m2] s h).bind fun os s h => ofO (lkZ h (O.toWs os)) s h) := by
  refine ⟨fun pins s σ H Q I hq => (RZ.pi_zipA hg hm ha (by rw [plain_star hp]) (by rw [plain_star hp2]; rfl)).run pins s σ H Q I ?_⟩
  obtain ⟨F, r, s0, h, L, R, a0, out⟩ := hq
  refine ⟨F, r, s0, h, L, R, a0, (Out.cases out).mono (fun os s1 h1 o1 => ?_) (fun _ _ _ _ z => z)⟩
  intro F1 r1 H1 L1 vs M b1 ros wi1
  have q := ros.shareM
  obtain ⟨k, e3, o3⟩ := Out.ofO o1
  rcases lkZ_cases e3 with ⟨xs, ys, ew, rfl⟩ | ⟨a, b, x, y, ew, ea, eb, rfl⟩
  · rw [ew] at q
    cases q with
    | cons q1 q2 =>
      cases q2 with
      | cons q2 q3 =>
        cases q3
        cases q1 with
        | tup ea qa =>
          cases q2 with
          | tup eb qb => exact ⟨_, _, _, _, rfl, .inr ⟨.of ea, .of eb, o3 _ r1 H1 L1 _ b1.share wi1.share (tn_zipT ea qa eb qb)⟩⟩
  · rw [ew] at q
    cases q with
    | cons q1 q2 =>
      cases q2 with
      | cons q2 q3 =>
        cases q3
        obtain ⟨a1, us, rfl, ha, la⟩ := lk_list wi1.share q1 ea
        obtain ⟨a2, us2, rfl, hb, lb⟩ := lk_list wi1.share q2 eb
        exact ⟨_, _, _, _, rfl, .inl ⟨.of ha, .of hb, o3 _ r1 H1 L1 _ b1.share wi1.share (tn_zip la lb)⟩⟩
end
end Mini
set_option Elab.async false
set_option linter.all false
set_option maxRecDepth 100000
set_option maxHeartbeats 1000000
/-! Mini: enumerate over tuples. -/
namespace Mini
open PySem PySem.Spec PyProof.Rows L2
section
theorem enum_newT (l : Addr) (items : Array Value) (n : Nat) (dct : Option Addr) (sl : Array (Option Value)) :
    Meets (Builtin.«enumerate.__new__» ⟨[.type "enumerate", .ref l], []⟩) (fun _ R s => s.heap.get? l = some { cls := .type "tuple", dict := dct, data := .seq items n, slots := sl } ∧
      R (.ok (.ret (.ref (s.heap.push { cls := .type "tuple_iterator", data := .fields #[.ref l, .int 0 0] }).objs.size)))
        { s with heap := (s.heap.push { cls := .type "tuple_iterator", data := .fields #[.ref l, .int 0 0] }).push { cls := .type "enumerate", data := .fields #[.none, .bool false, .ref s.heap.objs.size, rawInt 0, .none, .none] } }) :=
  .of_wp fun prog w A R s h => by
    obtain ⟨hp, g, d, tk, os⟩ := s
    obtain ⟨hl, h⟩ := h
    have hsub := sub_enumerate
    have hL : Heap.IsTuple (Shared.heap ⟨hp, g, d, tk, os⟩) l items := ⟨_, hl, rfl, n, rfl⟩
    wp_walk using AutoSeq1.wpAny_loadPart' hl
    refine wpAny_stack_any fun st => wpAny_pure ?_
    split
    · rename_i c _ _ _ _ _
      cases (c == Value.type "enumerate")
      · wp_walk using AutoSeq1.wpAny_loadPart' hl, wpAny_pyIter_tuple hL
        exact ⟨_, rfl, h⟩
      · wp_walk using AutoSeq1.wpAny_loadPart' hl, wpAny_pyIter_tuple hL
        exact ⟨_, rfl, h⟩
    · wp_walk using AutoSeq1.wpAny_loadPart' hl, wpAny_pyIter_tuple hL
      exact ⟨_, rfl, h⟩
end
section
variable {prog : Program} {w : World} {A : Around} {E : Value → Shared → Prop} {s : Shared}
theorem call_enumT {l : Addr} {items : Array Value} {Q : Value → Shared → Prop} (hL : s.heap.IsTuple l items)
    (h : ∀ h', IsEnum h' (s.heap.objs.size + 1) s.heap.objs.size 0 .none → h'.IsTupleIter s.heap.objs.size l 0 → h'.objs.size = s.heap.objs.size + 2 →
      (∀ b o, s.heap.get? b = some o → h'.get? b = some o) → Q (.ref (s.heap.objs.size + 1)) { s with heap := h' }) :
    wpAny (model prog w) A (call (.type "enumerate") [.ref l]) Q E s := by
  obtain ⟨⟨c, dct, dt, sl⟩, hl, hc, n, hd⟩ := hL
  replace hc : c = .type "tuple" := hc
  replace hd : dt = .seq items n := hd
  subst hc hd
  refine callType_new F.called_enumerate (by decide) (F.typeCall_enumerate_1 _) (F.newCall_enumerate_1 _) (fun obj => F.args_object_init_2 obj _) F.entry_enumerate_new
    (enum_newT l items n dct sl) ⟨hl, ?_⟩
  have hz : (s.heap.push { cls := .type "tuple_iterator", data := .fields #[.ref l, .int 0 0] }).objs.size = s.heap.objs.size + 1 := Heap.size_push ..
  show _ ∧ _
  rw [hz]
  have he : IsEnum ((s.heap.push { cls := .type "tuple_iterator", data := .fields #[.ref l, .int 0 0] }).push
      { cls := .type "enumerate", data := .fields #[.none, .bool false, .ref s.heap.objs.size, rawInt 0, .none, .none] }) (s.heap.objs.size + 1) s.heap.objs.size 0 .none := by
    have := Heap.get?_push_size (s.heap.push { cls := .type "tuple_iterator", data := .fields #[.ref l, .int 0 0] })
      (o := { cls := .type "enumerate", data := .fields #[.none, .bool false, .ref s.heap.objs.size, rawInt 0, .none, .none] }) rfl
    rw [hz] at this; exact this
  refine ⟨⟨_, he, rfl⟩, h _ he ⟨_, Heap.get?_push_of_some _ (Heap.get?_push_size _ rfl), rfl, rfl⟩ (by rw [Heap.size_push, hz]) fun b o x => Heap.get?_push_of_some _ (Heap.get?_push_of_some _ x)⟩
end
/-- the tuple at a as it stands at each turn, each item in a new pair -/
def IteT (K : PySem.W.Frag) (a : Addr) : It :=
  ⟨fun i H => ∃ (xs : List V) (x : V), SqT K H a xs ∧ xs[i]? = some x, fun i H v H' => ∃ T x, v = .ref T ∧ H T = none ∧ H' = upd H T (.tup [.int (i : Nat), x]) ∧ ∀ xs, SqT K H a xs → xs[i]? = some x, fun i H => ∃ xs : List V, SqT K H a xs ∧ xs.length = i⟩
theorem turn_enumT {P : Program} {w : World} {K : PySem.W.Frag} {elts : List Expr} {kk : Nat} {tpos : Pos} (a e it : Addr) :
    Turn P w K (.Tuple elts kk tpos) (IteT K a) [e, it] e (fun i h => (∃ old, IsEnum h e it ((i : Nat) : Int) old) ∧ h.IsTupleIter it a i ∧ e ≠ it ∧ a ≠ it ∧ a ≠ e) where
  mem := by simp
  obj := fun i h st b hb => by
    obtain ⟨⟨old, he⟩, ⟨o, ho, hc, hd⟩, _⟩ := st
    have e' : b = e ∨ b = it := by simpa using hb
    rcases e' with z | z
    · rw [z]; exact ⟨_, he, fun v q => nomatch q⟩
    · rw [z]; exact ⟨o, ho, fun v q => by rw [hd] at q; cases q⟩
  keep := fun i h h' st k => let ⟨⟨old, he⟩, hi, hne⟩ := st; ⟨⟨old, k e (by simp) _ he⟩, hi.at fun o q => k it (by simp) o q, hne⟩
  item := by
    intro X hP hw hK hc i pins s σ H E I hf st hg
    subst hP hw hK
    obtain ⟨⟨old, he⟩, hit, hne, hai, hae⟩ := st
    obtain ⟨xs, x, hq, hx⟩ := hg
    obtain ⟨its, rv, p, hz⟩ := I.tuple hq
    obtain ⟨u, hu, ru⟩ := rv.get hx
    have hel : e < s.heap.objs.size := Heap.lt_size he
    have hil : it < s.heap.objs.size := by obtain ⟨_, q, _⟩ := hit; exact Heap.lt_size q
    have hi : i < its.toArray.size := by
      have := (List.getElem?_eq_some_iff.mp hu).1
      simpa using this
    have D := Draws.tuple (prog := X.prog) (w := X.w) (A := X.A.in1) (I.ok.hd hc) it a hai its.toArray
    refine wpAny_pyNext_enum_itemD D he ⟨hit, p⟩ hi hne (by simp [hne, Ne.symm hae]) fun y h' tk hy ho st' hT hsz hk => ?_
    have ey : y = u := by
      have hu' : its.toArray[i]? = some u := by simpa using hu
      rw [hu'] at hy
      exact (Option.some.inj hy).symm
    subst ey
    have hit' := st'.1
    refine ⟨_, rfl, wpAny_letOwnedTupleGo_enum (s := { s with heap := h', toks := tk + 1 }) ho fun h'' he' sb => ?_⟩
    have hT2 : h''.get? s.heap.objs.size = some { cls := .type "tuple", data := .seq #[.int i tk, y] } := (sb.2 _ (Nat.ne_of_gt hel)).trans hT
    have new : ObjOk X.prog X.w (upd H s.heap.objs.size (.tup [.int (i : Nat), x])) h'' s.heap.objs.size (.tup [.int (i : Nat), x]) :=
      ⟨by show 2 ≤ sizeLine; decide, [.int i tk, y], .cons ⟨_, rfl⟩ (.cons ru .nil), ⟨_, hT2, rfl, _, rfl⟩⟩
    have I1 : Inv X pins σ (upd H s.heap.objs.size (.tup [.int (i : Nat), x])) { s with heap := h'', toks := tk + 1 } :=
      I.turnedNew (ch := [e, it]) (fun b ob hb q => (sb.2 b (fun z => hb (by simp [z]))).trans (hk b ob (fun z => hb (by simp [z])) (fun z => hb (by simp [z])) q)) hf (Nat.le_refl _) new
    refine ⟨.ref s.heap.objs.size, _, I1, rfl, ⟨_, x, rfl, I.hok.fresh (Nat.le_refl _), rfl, fun ys hy => by rw [I.tuple_inj hy hq]; exact hx⟩, ⟨⟨y, ?_⟩, hit'.at fun o q => (sb.2 it (Ne.symm hne)).trans q, hne, hai, hae⟩, fun b hb => ?_⟩
    · have e1 : ((i + 1 : Nat) : Int) = (i : Int) + 1 := by omega
      rw [e1]; exact he'
    · have hb' : b < s.heap.objs.size := by
        have e' : b = e ∨ b = it := by simpa using hb
        rcases e' with z | z
        · rw [z]; exact hel
        · rw [z]; exact hil
      rw [upd_ne (Nat.ne_of_lt hb')]
      exact (hf b hb).1
  done := by
    intro X hP hw hK hc i pins s σ H E I hf st hg
    subst hP hw hK
    obtain ⟨⟨old, he⟩, hit, hne, hai, hae⟩ := st
    obtain ⟨xs, hq, hx⟩ := hg
    obtain ⟨its, rv, p, hz⟩ := I.tuple hq
    obtain ⟨f0, f1, f2, f3, f4, f5⟩ := hf it (by simp)
    have hl := rv.length
    have D := Draws.tuple (prog := X.prog) (w := X.w) (A := X.A.in1) (I.ok.hd hc) it a hai its.toArray
    refine wpAny_pyNext_enum_endD D he (n := its.toArray.size) ?_ fun h' eb => ⟨rfl, I.turned (t' := s.toks) (fun b o hb q => eb b o hb q) f0 f1 f3 f4 f5⟩
    have ei : its.toArray.size = i := by simp; omega
    rw [ei]
    exact ⟨hit, p⟩
  self := fun A i s Q E st h => let ⟨⟨_, he⟩, _⟩ := st; wpAny_pyIter_enum he h
def iEnumT (K : PySem.W.Frag) (ta : TA) : TI := fun σ H R => ta σ H fun vs H1 => ∃ a xs, vs = [.ref a] ∧ SqT K H1 a xs ∧ R (IteT K a) H1
theorem pi_enumT {X : Cx} {e : Expr} {ta : TA} {p pos tpos : Pos} {elts : List Expr} {kk : Nat} (hg : Gl X "enumerate") (hm : X.mg "enumerate" = none) (ha : PA X [e] ta) (hs : starEach [e] X.env = [(false, eval e X.env)] := by rfl) :
    PI X (.Tuple elts kk tpos) (.Call (.Name "enumerate" p) [e] [] pos) (iEnumT X.K ta) := by
  refine ⟨fun pins s σ H R I h => ?_⟩
  refine Call_ (ld_blt I hg hm boot_enumerate (PyProof.Rows.callWith_type1 (thn (ha.run pos pins s σ H _ I h) fun us s1 ⟨vs, H1, I1, r1, q1⟩ => ?_) hs rfl))
  obtain ⟨a, xs, ex, hq, q⟩ := q1
  subst ex
  cases r1 with
  | cons r rr =>
    cases rr
    cases r
    obtain ⟨its, rv, p', hz⟩ := I1.tuple hq
    have hal : a < s1.heap.objs.size := by obtain ⟨_, q, _⟩ := id p'; exact Heap.lt_size q
    refine call_enumT p' fun h' he hit hsz hk => wpAny_pyIter_enum he ?_
    have I2 : Inv X pins σ H1 { s1 with heap := h' } := I1.kept (t' := s1.toks) hk
    refine ⟨s1.heap.objs.size + 1, [s1.heap.objs.size + 1, s1.heap.objs.size], _, _, H1, rfl, I2, turn_enumT a (s1.heap.objs.size + 1) s1.heap.objs.size, ⟨⟨.none, he⟩, hit, Nat.succ_ne_self _, Nat.ne_of_lt hal, Nat.ne_of_lt (Nat.lt_succ_of_lt hal)⟩, fun b hb => ?_, q⟩
    have e' : b = s1.heap.objs.size + 1 ∨ b = s1.heap.objs.size := by simpa using hb
    have hle : s1.heap.objs.size ≤ b := by
      rcases e' with z | z
      · rw [z]; exact Nat.le_add_right _ _
      · rw [z]; exact Nat.le_refl _
    exact I1.fpOk hle (I1.hok.fresh hle)
theorem walk_enumT {K : PySem.W.Frag} {a : Addr} {xs : List V} : Walk (IteT K a) xs.length (fun H => SqT K H a xs) (fun i H v H' => ∃ T x, v = .ref T ∧ H T = none ∧ H' = upd H T (.tup [.int (i : Nat), x]) ∧ xs[i]? = some x) :=
  ⟨fun i H hi q => ⟨xs, xs[i], q, by simp [hi]⟩, fun H q => ⟨xs, q, rfl⟩, fun i H v H' hi q ⟨T, x, h1, h2, h3, h4⟩ => ⟨T, x, h1, h2, h3, h4 xs q⟩⟩
section
variable {G : GI} {Wx : WX} {X : Cx} {f : ME → SL → HH → Mini.R O} {F F1 : Fz} {r r1 : List Addr} {H H1 : Hp} {R L L1 : List Addr} {σ : L2.St} {s s1 : SL} {h h1 : HH}
theorem tn_enumT {K : PySem.W.Frag} {a : Addr} {xs : List W} {vs : List V} (e : H a = some (.tup vs)) (q : RWs G F r H xs vs) : Tn G F r H (IteT K a) ⟨enumW 0 xs, []⟩ :=
  ⟨vs.length, _, _, walk_enumT (xs := vs), by show _ = (enumW 0 xs).length; rw [enumW_len, q.len], fun F2 r2 H2 hh R l _ _ => .of (l.t _ _ e), fun i w F1 r1 H1 x H2 hh R l wi g y ew => by
    obtain ⟨T, x1, rfl, hT, rfl, e2⟩ := y
    obtain ⟨w2, ew2, rfl⟩ := enumW_get xs 0 i w ew
    have z := tn_pair wi hT (.int ((i : Nat) : Int)) ((q.mono l).getV ew2 e2)
    rw [show (0 + i : Nat) = i from by omega]
    exact z⟩
theorem pi_menum {e : Expr} {m : ME} {elts : List Expr} {kk : Nat} {tpos p pos : Pos} (hg : Gl X "enumerate") (hm : X.mg "enumerate" = none) (hp : plainE e = true) (he : PE X e (TM G Wx (f m))) : PI X (.Tuple elts kk tpos) (.Call (.Name "enumerate" p) [e] [] pos) (TMi G Wx fun s h => (f m s h).bind fun o s h => match lkW h o.toW with
    | some k => .ok ⟨enumW 0 k.ws, k.gs⟩ s h
    | none => .fail) := by
  refine ⟨fun pins s σ H Q I hq => ?_⟩
  have hL := (pi_enum (elts := elts) (kk := kk) (tpos := tpos) (p := p) (pos := pos) hg hm (pa_cons he pa_nil (plain_star hp)) (plain_star hp)).run pins s σ H Q I
  have hT := (pi_enumT (elts := elts) (kk := kk) (tpos := tpos) (p := p) (pos := pos) hg hm (pa_cons he pa_nil (plain_star hp)) (plain_star hp)).run pins s σ H Q I
  obtain ⟨F, r, s0, h, L, R, a0, out⟩ := hq
  have o0 := Out.cases out
  cases ed : f m s0 h with
  | fail => rw [ed] at o0; exact o0.elim
  | exc c ws s1 h1 =>
    rw [ed] at o0
    exact hL ⟨F, r, s0, h, L, R, a0, by rw [ed]; exact o0⟩
  | ok o s1 h1 =>
    rw [ed] at o0
    dsimp only [Out] at o0
    by_cases ht : ∃ xs, o.toW = .tup xs
    · obtain ⟨xs, ew⟩ := ht
      refine hT ⟨F, r, s0, h, L, R, a0, ?_⟩
      rw [ed]
      intro F1 r1 H1 L1 v M b1 ro wi1
      have q := ro.shareM
      rw [ew] at q o0
      cases q with
      | tup ea qa => exact ⟨_, _, rfl, .of ea, o0 _ r1 H1 L1 _ b1.share wi1.share (tn_enumT ea qa)⟩
    · cases e4 : lkW h1 o.toW with
      | none => rw [e4] at o0; exact o0.elim
      | some k =>
        rw [e4] at o0
        refine hL ⟨F, r, s0, h, L, R, a0, ?_⟩
        rw [ed]
        intro F1 r1 H1 L1 v M b1 ro wi1
        have e5 : lkL h1 o.toW = some k := by
          unfold lkL
          split
          · rename_i xs ex; exact absurd ⟨xs, ex⟩ ht
          · exact e4
        obtain ⟨a, vs, rfl, ea, la⟩ := lk_list wi1.share ro.shareM e5
        exact ⟨_, _, rfl, .of ea, o0 _ r1 H1 L1 _ b1.share wi1.share (tn_enum la)⟩
end
end Mini
set_option Elab.async false
set_option linter.all false
set_option maxRecDepth 100000
set_option maxHeartbeats 1000000
/-! Mini: the heap's lists hidden for a while, and all as it was behind it. -/
namespace Mini
open PySem L2
section
mutual
theorem belowW_mono {m n : Nat} (hm : m ≤ n) : ∀ {w : W}, belowW m w = true → belowW n w = true
  | .hp i, h => by
    have h : decide (i < m) = true := h
    show decide (i < n) = true
    simp only [decide_eq_true_eq] at h ⊢
    omega
  | .clo l cs, h => by
    have h : (cs.all fun i => decide (i < m)) = true := h
    show (cs.all fun i => decide (i < n)) = true
    simp only [List.all_eq_true, decide_eq_true_eq] at h ⊢
    exact fun x hx => Nat.lt_of_lt_of_le (h x hx) hm
  | .tup xs, h => belowWs_mono hm (ws := xs) h
  | .lst xs, h => belowWs_mono hm (ws := xs) h
  | .ks xs, h => belowWs_mono hm (ws := xs) h
  | .dic _ _ xs, h => belowWs_mono hm (ws := xs) h
  | .non, _ => rfl
  | .bl _, _ => rfl
  | .int _, _ => rfl
  | .str _, _ => rfl
  | .fn _, _ => rfl
  | .opq _, _ => rfl
theorem belowWs_mono {m n : Nat} (hm : m ≤ n) : ∀ {ws : List W}, belowWs m ws = true → belowWs n ws = true
  | [], _ => rfl
  | w :: ws, h => by
    have h : (belowW m w && belowWs m ws) = true := h
    rw [Bool.and_eq_true] at h
    show (belowW n w && belowWs n ws) = true
    rw [belowW_mono hm h.1, belowWs_mono hm h.2]
    rfl
end
variable {G : GS} {F F1 : Fz} {r r1 m : List Addr} {H H1 : Hp}
theorem at_cut {r m : List Addr} {i : Nat} {a : Addr} (e : (r ++ m)[i]? = some a) (hi : i < r.length) : r[i]? = some a := by
  rw [List.getElem?_append_left hi] at e
  exact e
mutual
theorem RW.trim : ∀ {w : W} {v : V}, RW G F (r ++ m) H w v → belowW r.length w = true → RW G F r H w v
  | _, _, .non, _ => .non
  | _, _, .bl b, _ => .bl b
  | _, _, .int i, _ => .int i
  | _, _, .str s, _ => .str s
  | _, _, .tup h q, b => .tup h (RWs.trim q b)
  | _, _, .lst f h q, b => .lst f h (RWs.trim q b)
  | _, _, .ks h q, b => .ks h (RWs.trim q b)
  | _, _, .dicK f h e q, b => .dicK f h e (RWs.trim q b)
  | _, _, .dicT f h e q, b => .dicT f h e (RWs.trim q b)
  | _, _, .hp h, b => .hp (at_cut h (of_decide_eq_true b))
  | _, _, .fn h, _ => .fn h
  | _, _, .opq q z, _ => .opq (RW.trim q (belowW_mono (Nat.zero_le _) z.2)) z
  | _, _, .clo (cs := cs) h0 h1 h2 h3 h4 h5 h6, b => .clo h0 h1 h2 h3 (fun k j x e1 e2 => (h4 k j x e1 e2).imp fun _ q => ⟨q.1, at_cut q.2 (of_decide_eq_true (List.all_eq_true.mp b j (List.mem_of_getElem? e1)))⟩) h5 h6
theorem RWs.trim : ∀ {w : List W} {v : List V}, RWs G F (r ++ m) H w v → belowWs r.length w = true → RWs G F r H w v
  | _, _, .nil, _ => .nil
  | w :: ws, _, .cons a b, h => by
    have h : (belowW r.length w && belowWs r.length ws) = true := h
    rw [Bool.and_eq_true] at h
    exact .cons (RW.trim a h.1) (RWs.trim b h.2)
end
mutual
theorem RO.trim : ∀ {w : O} {v : V} {L : List Addr}, RO G F (r ++ m) H w v L → belowO r.length w = true → RO G F r H w v L
  | _, _, _, .sh q, b => .sh (q.trim b)
  | _, _, _, .lst h q, b => .lst h (ROs.trim q b)
  | _, _, _, .tup h q, b => .tup h (ROs.trim q b)
  | _, _, _, .dicK h e q, b => .dicK h e (ROs.trim q b)
  | _, _, _, .dicT h e q, b => .dicT h e (ROs.trim q b)
theorem ROs.trim : ∀ {w : List O} {v : List V} {L : List Addr}, ROs G F (r ++ m) H w v L → belowOs r.length w = true → ROs G F r H w v L
  | _, _, _, .nil, _ => .nil
  | w :: ws, _, _, .cons a b, h => by
    have h : (belowO r.length w && belowOs r.length ws) = true := h
    rw [Bool.and_eq_true] at h
    exact .cons (RO.trim a h.1) (ROs.trim b h.2)
end
theorem RS.trim : ∀ {s : SL} {σ : L2.St} {L : List Addr}, RS G F (r ++ m) H s σ L → belowS r.length s = true → RS G F r H s σ L
  | _, _, _, .nil, _ => .nil
  | _, _, _, .nn a, b => .nn (RS.trim a b)
  | some o :: s, _, _, .so q a, h => by
    have h : (belowO r.length o && belowS r.length s) = true := h
    rw [Bool.and_eq_true] at h
    exact .so (q.trim h.1) (RS.trim a h.2)
/-! what is related to places is below their number -/
theorem get_lt {r : List Addr} {i : Nat} {a : Addr} (h : r[i]? = some a) : i < r.length := (List.getElem?_eq_some_iff.mp h).1
mutual
theorem RW.bel : ∀ {w : W} {v : V}, RW G F r H w v → belowW r.length w = true
  | _, _, .non => rfl
  | _, _, .bl b => rfl
  | _, _, .int i => rfl
  | _, _, .str s => rfl
  | _, _, .tup h q => RWs.bel q
  | _, _, .lst f h q => RWs.bel q
  | _, _, .ks h q => RWs.bel q
  | _, _, .dicK f h e q => RWs.bel q
  | _, _, .dicT f h e q => RWs.bel q
  | _, _, .hp h => decide_eq_true (get_lt h)
  | _, _, .fn h => rfl
  | _, _, .opq q z => rfl
  | _, _, .clo (li := li) (cs := cs) h0 h1 h2 h3 h4 h5 h6 => by
    show (cs.all fun i => decide (i < r.length)) = true
    rw [List.all_eq_true]
    intro j hj
    obtain ⟨k, hk⟩ := List.getElem?_of_mem hj
    have hk2 : k < li.fv.length := by rw [← h3]; exact (List.getElem?_eq_some_iff.mp hk).1
    obtain ⟨c, _, q⟩ := h4 k j _ hk (List.getElem?_eq_getElem hk2)
    exact decide_eq_true (get_lt q)
theorem RWs.bel : ∀ {w : List W} {v : List V}, RWs G F r H w v → belowWs r.length w = true
  | _, _, .nil => rfl
  | w :: ws, _, .cons a b => by
    show (belowW r.length w && belowWs r.length ws) = true
    rw [RW.bel a, RWs.bel b]
    rfl
end
theorem RH.len : ∀ {h : HH} {q L : List Addr}, RH G F r H h q L → h.length = q.length
  | _, _, _, .nil => rfl
  | _, _, _, .lst _ _ b => by simp [RH.len b]
  | _, _, _, .cel _ _ _ _ b => by simp [RH.len b]
  | _, _, _, .cel0 b => by simp [RH.len b]
theorem perm_swap3 {A B C : List Addr} {a : Addr} (p : (A ++ B).Perm C) : ((a :: A) ++ B).Perm (a :: C) := List.Perm.cons a p
/-- lists hidden; what was hidden comes back, where it was kept -/
theorem RH.fgt : ∀ {h : HH} {q L : List Addr}, RH G F r H h q L → ∃ Lc Ll, RH G F r H (Mini.fgt h) q Lc ∧ (Lc ++ Ll).Perm L ∧
    ∀ {G' : GS} {F' : Fz} {H' : Hp} {m q2 L2 : List Addr} {h' : HH}, G' = G → Le F r H F' r H' → (∀ b ∈ Ll, H' b = H b) → RH G' F' (r ++ m) H' h' (q ++ q2) L2 → sameHs (Mini.fgt h) h' = true →
      ∃ L3 Y, RH G' F' r H' h q L3 ∧ (L3 ++ Y).Perm (L2 ++ Ll)
  | _, _, _, .nil => ⟨[], [], .nil, List.Perm.refl _, fun {G' F' H' m q2 L2 h'} e l k w c => ⟨[], L2, .nil, by simp⟩⟩
  | _, _, _, .lst (a := a) (L := L) x y b => by
    obtain ⟨Lc, Ll, h1, h2, h3⟩ := RH.fgt b
    refine ⟨Lc, a :: Ll, .cel0 h1, List.perm_middle.trans (List.Perm.cons a h2), fun {G' F' H' m q2 L2 h'} e l k w c => ?_⟩
    subst e
    cases w with
    | lst _ _ _ => cases c
    | cel _ _ _ _ _ => cases c
    | cel0 w =>
      obtain ⟨L3, Y, g1, g2⟩ := h3 rfl l (fun b hb => k b (List.mem_cons_of_mem _ hb)) w c
      exact ⟨a :: L3, Y, .lst ((k a List.mem_cons_self).trans x) (y.mono l) g1, (List.Perm.cons a g2).trans List.perm_middle.symm⟩
  | _, _, _, .cel (a := a) (w := wd) (L := L) x y z t b => by
    obtain ⟨Lc, Ll, h1, h2, h3⟩ := RH.fgt b
    refine ⟨a :: Lc, Ll, .cel x y z t h1, List.Perm.cons a h2, fun {G' F' H' m q2 L2 h'} e l k w c => ?_⟩
    subst e
    cases w with
    | lst _ _ _ => cases c
    | cel0 w => cases c
    | @cel a2 o2 u2 w' v2 hh2 qq2 LL2 x' y' z' t' w =>
      have c : (same wd w' && sameHs (Mini.fgt _) _) = true := c
      rw [Bool.and_eq_true] at c
      obtain ⟨L3, Y, g1, g2⟩ := h3 rfl l k w c.2
      have ew := same_eq c.1
      subst ew
      exact ⟨a :: L3, Y, .cel x' y' z' (t'.trim t.bel) g1, List.Perm.cons a g2⟩
  | _, _, _, .cel0 (a := a) b => by
    obtain ⟨Lc, Ll, h1, h2, h3⟩ := RH.fgt b
    refine ⟨Lc, Ll, .cel0 h1, h2, fun {G' F' H' m q2 L2 h'} e l k w c => ?_⟩
    subst e
    cases w with
    | lst _ _ _ => cases c
    | cel _ _ _ _ _ => cases c
    | cel0 w =>
      obtain ⟨L3, Y, g1, g2⟩ := h3 rfl l k w c
      exact ⟨L3, Y, .cel0 g1, g2⟩
end
section
variable {G : GI} {F : Fz} {r : List Addr} {H : Hp} {R L : List Addr} {h : HH}
theorem RH.app0 {G : GS} : ∀ {h : HH} {q L : List Addr}, RH G F r H h q L → ∀ cs : List Addr, RH G F r H (h ++ List.replicate cs.length (.cell none)) (q ++ cs) L
  | _, _, _, .nil, [] => .nil
  | _, _, _, .nil, c :: cs => .cel0 (RH.app0 .nil cs)
  | _, _, _, .lst x y b, cs => .lst x y (RH.app0 b cs)
  | _, _, _, .cel x y z t b, cs => .cel x y z t (RH.app0 b cs)
  | _, _, _, .cel0 b, cs => .cel0 (RH.app0 b cs)
theorem Le.wide (F : Fz) (r m : List Addr) (H : Hp) : Le F r H F (r ++ m) H := ⟨fun _ h => h, fun _ _ => rfl, ⟨m, rfl⟩, fun _ _ h => h, fun _ _ _ h _ => h, fun _ _ h => h⟩
/-- into a part with hidden lists and cells of its own, and back -/
theorem WI.fgt (w : WI G F r H h (L ++ R)) (cs : List Addr) (own' : List (Nat × Addr)) (ho : ∀ p ∈ own', (r ++ cs)[p.1]? = some p.2) :
    ∃ Ll, WI ⟨G.toGS, own'⟩ F (r ++ cs) H (Mini.fgt h ++ List.replicate cs.length (.cell none)) (L ++ (Ll ++ R)) ∧ Le F r H F (r ++ cs) H ∧ h.length = r.length ∧
      ∀ {F' : Fz} {r' : List Addr} {H' : Hp} {h' : HH} {M : List Addr}, Le F (r ++ cs) H F' r' H' → (∀ b ∈ Ll ++ R, H' b = H b) → WI ⟨G.toGS, own'⟩ F' r' H' h' (M ++ (Ll ++ R)) → sameHs (Mini.fgt h) h' = true →
        WI G F' r H' h (M ++ R) ∧ Le F r H F' r H' ∧ ∃ m, r' = r ++ m := by
  obtain ⟨⟨Lh, h1, h2, h3⟩, ff, tb, ow⟩ := w
  obtain ⟨Lc, Ll, g1, g2, g3⟩ := h1.fgt
  have pm : (Lc ++ (L ++ (Ll ++ R))).Perm (Lh ++ (L ++ R)) := by
    have p1 : (Lc ++ (L ++ (Ll ++ R))).Perm (Lc ++ (Ll ++ (L ++ R))) := List.Perm.append_left Lc (List.perm_append_comm_assoc ..)
    refine p1.trans ?_
    rw [← List.append_assoc]
    exact g2.append_right _
  refine ⟨Ll, ⟨⟨Lc, ?_, pm.nodup_iff.mpr h2, fun a ha => h3 a (pm.mem_iff.mp ha)⟩, ff, tb, ho⟩, Le.wide .., h1.len, fun {F' r' H' h' M} l k w' c => ?_⟩
  · exact (g1.app0 cs).mono (Le.wide ..) fun _ _ => rfl
  · obtain ⟨m, em⟩ := l.p
    have l0 : Le F r H F' r H' := ⟨l.f, l.k, ⟨[], by simp⟩, l.t, l.z, l.x⟩
    obtain ⟨⟨L2, q1, q2, q3⟩, ff', tb', ow'⟩ := w'
    rw [em, List.append_assoc] at q1
    obtain ⟨L3, Y, x1, x2⟩ := g3 (G' := G.toGS) rfl l0 (fun b hb => k b (List.mem_append_left _ hb)) q1 c
    have pm2 : (L2 ++ (M ++ (Ll ++ R))).Perm ((L3 ++ (M ++ R)) ++ Y) := by
      have p1 : (L2 ++ (M ++ (Ll ++ R))).Perm (L2 ++ (Ll ++ (M ++ R))) := List.Perm.append_left L2 (List.perm_append_comm_assoc ..)
      refine p1.trans ?_
      rw [← List.append_assoc]
      refine (x2.symm.append_right _).trans ?_
      rw [List.append_assoc, List.append_assoc]
      exact List.Perm.append_left L3 List.perm_append_comm
    have nd := (List.nodup_append.mp (pm2.nodup_iff.mp q2)).1
    refine ⟨⟨⟨L3, x1, nd, fun a ha => q3 a (pm2.mem_iff.mpr (List.mem_append_left _ ha))⟩, ff', tb', ow⟩, l0, cs ++ m, by rw [em, List.append_assoc]⟩
end
end Mini
set_option Elab.async false
set_option linter.all false
set_option maxRecDepth 100000
set_option maxHeartbeats 1000000
/-! Mini: comprehensions. -/
namespace Mini
open PySem L2
theorem wipeG_idem {α : Type} {s : List (Option α)} : ∀ is : List Nat, wipeG (wipeG s is) is = wipeG s is
  | [] => rfl
  | i :: is => by
    show (wipeG ((wipeG s is).set i none) is).set i none = (wipeG s is).set i none
    by_cases hm : i ∈ is
    · rw [wipeG_mem hm, wipeG_idem is]
    · rw [wipeG_comm hm, wipeG_idem is, List.set_set]
abbrev W0 : WX := fun _ _ _ => False
section
variable {G : GI} {Wx : WX} {X : Cx} {f : ME → SL → HH → R O} {tf : ME → SL → HH → R Bool} {F F1 : Fz} {r r1 : List Addr} {H H1 : Hp} {R L L1 : List Addr} {σ : L2.St} {s s1 : SL} {h h1 : HH}
theorem Out.nox {α β : Type} {m : Mini.R α} {k : α → SL → HH → Mini.R β} {P : β → SL → HH → Prop} {E : Nat → List W → SL → HH → Prop} (o : Out (m.nox.bind k) P E) : Out m (fun a s h => Out (k a s h) P E) (fun _ _ _ _ => False) := by
  cases m <;> exact o
theorem EK.none {c : Nat} {ws : List W} {s' : SL} {h' : HH} (z : False) : EK G Wx F r H R σ c ws s' h' := z.elim
theorem pts_m {ifs : Option ME} {es : List Expr} (h : (ifs = none ∧ es = []) ∨ ∃ c e, ifs = some c ∧ es = [e] ∧ PT X e (TMt G Wx (tf c))) : PTs X es (TMt G Wx (testE tf ifs)) := by
  rcases h with ⟨rfl, rfl⟩ | ⟨c, e, rfl, rfl, h⟩
  · refine ⟨fun pins s σ H Q I hq => pts_nil.run pins s σ H Q I ?_⟩
    obtain ⟨F, r, s, h, L, R, a, out⟩ := hq
    exact out F r H L a.here a.wi
  · exact pts_one h
theorem compL_guard {tg : Tg} {own : List Nat} {gs : List (Nat × List W)} {test : SL → HH → Mini.R Bool} {elt : SL → HH → Mini.R O} {ws : List W} {acc : List O} {s : SL} {h : HH} {P : List O → SL → HH → Prop} {E : Nat → List W → SL → HH → Prop} (o : Out (compL tg own gs test elt ws acc s h) P E) : guard gs h = true := by
  cases ws <;> unfold compL at o <;> split at o <;> first | assumption | exact o.elim
theorem w_mcomp {K : PySem.W.Frag} {own : List Nat} {tg : Tg} {it : SL → HH → Mini.R Wk} {ifs : Option ME} {elt : ME} {ow : List (Str × Nat)}
    (how : ow.map (·.2) = own) (nd : own.Nodup) (hk : tg ≠ .skip) (hids : ∀ i ∈ tgIds tg, i ∈ own) : ∀ σ H Q, TM G Wx (fun s h => (it s h).bind fun k s h => if shOk s own && decide (k.ws.length ≤ line) then
      (compL tg own k.gs (testE tf ifs) (f elt) k.ws [] s h).nox.bind fun os s' h => .ok (.lst os) (unwipe s own s') h else .fail) σ H Q → tLc (TMi G Wx it) (gTg K tg) (TMt G W0 (testE tf ifs)) (TM G W0 (f elt)) (ow.map (·.2)) σ H Q := by
  rintro σ H Q ⟨F, r, s, h, L, R, a0, out⟩
  refine ⟨F, r, s, h, L, R, a0, (Out.cases out).mono (fun kk s1 h1 o1 => ?_) (fun _ _ _ _ z => z)⟩
  intro F1 r1 H1 L1 J b1 wi1 tn
  obtain ⟨ws, gs⟩ := kk
  rw [how]
  split at o1
  · rename_i hcond
    simp only [Bool.and_eq_true, decide_eq_true_eq] at hcond
    obtain ⟨hsh, hlen⟩ := hcond
    intro D hD
    obtain ⟨n, Gs, Y, walk, en, hG, hY⟩ := tn
    have sf := ShF.of b1.rs hsh
    have o2 := Out.nox o1
    refine lc_it walk (fun i H' => ∃ F' r' h' s' acc L' vs Lacc, Le F1 r1 H1 F' r' H' ∧ (∀ b ∈ R, H' b = H1 b) ∧ RS G F' r' H' (wipeG s' own) (wipeG σ own) L' ∧ s'.length = s1.length ∧ H' D = some (.lst vs) ∧ ROs G F' r' H' acc vs Lacc ∧
      WI G F' r' H' h' (D :: (Lacc ++ (L' ++ R))) ∧ acc.length ≤ i ∧ Out (compL tg own gs (testE tf ifs) (f elt) (ws.drop i) acc s' h') (fun os s'' h'' => PO G F r H R σ Q (.lst os) (unwipe s1 own s'') h'') (fun _ _ _ _ => False)) ?_ ?_ ?_ ?_
    · have l := Le.new wi1 hD (.lst [])
      have kp : ∀ b ∈ L1 ++ R, upd H1 D (.lst []) b = H1 b := fun b hb => upd_ne (wi1.ne hb hD)
      refine ⟨F1, r1, h1, s1, [], L1, [], [], l, fun b hb => kp b (List.mem_append_right _ hb), (b1.rs.wipeS sf nd).mono l fun b hb => kp b (List.mem_append_left _ hb), rfl, upd_same, .nil, wi1.new hD _, Nat.le_refl _, ?_⟩
      rw [List.drop_zero]
      exact o2.mono (fun _ _ _ z => z) fun _ _ _ _ z => z
    · rintro i H' hi ⟨F', r', h', s', acc, L', vs, Lacc, l, _, _, _, _, _, wi2, _, o3⟩
      exact hG _ _ _ _ _ l wi2 (compL_guard o3)
    · rintro i x H2 H3 hi ⟨F', r', h', s', acc, L', vs, Lacc, l, kR, rs, hsl, hDv, ros, wi2, hacc, o3⟩ y
      have hiw : i < ws.length := en ▸ hi
      have hgd := compL_guard o3
      have ew : ws[i]? = some ws[i] := List.getElem?_eq_getElem hiw
      have ed : ws.drop i = ws[i] :: ws.drop (i + 1) := (List.getElem_cons_drop hiw).symm
      generalize ws[i] = w at ew ed
      obtain ⟨l2, k2, wi3, rw3⟩ := hY i w F' r' H2 x H3 h' _ l wi2 hgd y ew
      rw [ed] at o3
      have kD : H3 D = some (.lst vs) := (k2 D (by rw [hDv]; simp)).trans hDv
      have th : ∀ b ∈ D :: (Lacc ++ (L' ++ R)), H3 b = H2 b := fun b hb => k2 b (wi2.there hb)
      have rs3 : RS G F' r' H3 (wipeG s' own) (wipeG σ own) L' := rs.mono l2 fun b hb => th b (by simp [hb])
      have ros3 : ROs G F' r' H3 acc vs Lacc := ros.mono l2 fun b hb => th b (by simp [hb])
      unfold compL at o3
      rw [if_pos hgd] at o3
      rw [wipe_G] at o3
      rw [wipe_L]
      split at o3
      · exact o3.elim
      · rename_i s2 es
        refine w_tg (s' := s2) rs3 rw3 es hk fun σ2 L2' rs2 hL2 hwp hsl2 => ?_
        have hw : wipeG σ2 own = wipeG σ own := by rw [hwp own hids, wipeG_idem]
        refine ⟨by rw [wipe_L]; exact hw, ?_⟩
        have wi4 : WI G F' r' H3 h' (L2' ++ (D :: (Lacc ++ R))) := by
          refine wi3.of (fun b hb => ?_) ?_
          · have hsub := hL2.subset
            simp only [List.mem_append, List.mem_cons] at hb ⊢
            rcases hb with q | q | q | q
            · exact .inr (.inr (.inl (hsub q)))
            · exact .inl q
            · exact .inr (.inl q)
            · exact .inr (.inr (.inr q))
          · have p1 : (L2' ++ (D :: (Lacc ++ R))).Sublist (L' ++ (D :: (Lacc ++ R))) := hL2.append (List.Sublist.refl _)
            refine p1.nodup ?_
            have p2 : (D :: (Lacc ++ (L' ++ R))).Perm (L' ++ (D :: (Lacc ++ R))) := by
              have z : (Lacc ++ (L' ++ R)).Perm (L' ++ (Lacc ++ R)) := List.perm_append_comm_assoc ..
              exact (List.Perm.cons D z).trans List.perm_middle.symm
            exact p2.nodup_iff.mp wi3.nodup
        refine ⟨F', r', s2, h', L2', D :: (Lacc ++ R), ⟨rs2, wi4⟩, (Out.cases o3).mono (fun b s3 h3 o4 => ?_) (fun _ _ _ _ z => z.elim)⟩
        intro F4 r4 H4 L4 b4 wi5
        have back : ∀ {F5 : Fz} {r5 : List Addr} {H5 : Hp} {h5 : HH} {L5 : List Addr} {s5 : SL} {acc5 : List O} {Lacc5 : List Addr} {vs5 : List V}, Le F' r' H3 F5 r5 H5 → (∀ b ∈ R, H5 b = H3 b) → RS G F5 r5 H5 s5 σ2 L5 → H5 D = some (.lst vs5) → ROs G F5 r5 H5 acc5 vs5 Lacc5 →
            WI G F5 r5 H5 h5 (L5 ++ (D :: (Lacc5 ++ R))) → acc5.length ≤ i + 1 → Out (compL tg own gs (testE tf ifs) (f elt) (ws.drop (i + 1)) acc5 s5 h5) (fun os s'' h'' => PO G F r H R σ Q (.lst os) (unwipe s1 own s'') h'') (fun _ _ _ _ => False) →
            ∃ F' r' h' s' acc L' vs Lacc, Le F1 r1 H1 F' r' H5 ∧ (∀ b ∈ R, H5 b = H1 b) ∧ RS G F' r' H5 (wipeG s' own) (wipeG σ own) L' ∧ s'.length = s1.length ∧ H5 D = some (.lst vs) ∧ ROs G F' r' H5 acc vs Lacc ∧
              WI G F' r' H5 h' (D :: (Lacc ++ (L' ++ R))) ∧ acc.length ≤ i + 1 ∧ Out (compL tg own gs (testE tf ifs) (f elt) (ws.drop (i + 1)) acc s' h') (fun os s'' h'' => PO G F r H R σ Q (.lst os) (unwipe s1 own s'') h'') (fun _ _ _ _ => False) := by
          intro F5 r5 H5 h5 L5 s5 acc5 Lacc5 vs5 l5 k5 rs5 hD5 ros5 wi5 ha5 o5
          obtain ⟨L6, rs6, hL6⟩ := rs5.wipe own
          rw [hw] at rs6
          refine ⟨F5, r5, h5, s5, acc5, L6, vs5, Lacc5, (l.trans l2).trans l5, fun b hb => (k5 b hb).trans ((th b (by simp [hb])).trans (kR b hb)), rs6, ?_, hD5, ros5, ?_, ha5, o5⟩
          · have e1 := rs5.len
            have e2 := rs2.len
            rw [e1, ← e2, hsl2, wipeG_len, hsl]
          · have p2 : (L6 ++ (D :: (Lacc5 ++ R))).Perm (D :: (Lacc5 ++ (L6 ++ R))) := by
              have z : (L6 ++ (Lacc5 ++ R)).Perm (Lacc5 ++ (L6 ++ R)) := List.perm_append_comm_assoc ..
              exact List.perm_middle.trans (List.Perm.cons D z)
            refine (wi5.of (R' := L6 ++ (D :: (Lacc5 ++ R))) (fun b hb => ?_) ((hL6.append (List.Sublist.refl _)).nodup wi5.nodup)).perm p2
            exact (hL6.append (List.Sublist.refl (D :: (Lacc5 ++ R)))).subset hb
        cases b with
        | false =>
          show ∃ F' r' h' s' acc L' vs Lacc, _
          refine back b4.le (fun b hb => b4.kp b (by simp [hb])) b4.rs ((b4.kp D (by simp)).trans kD) (ros3.mono b4.le fun b hb => b4.kp b (by simp [hb])) wi5 (by omega) ?_
          exact Out.mono (show Out (compL tg own gs (testE tf ifs) (f elt) (ws.drop (i + 1)) acc s3 h3) _ _ from o4) (fun _ _ _ z => z) fun _ _ _ _ z => z
        | true =>
          have o4 : Out ((f elt s3 h3).bind fun o s h => compL tg own gs (testE tf ifs) (f elt) (ws.drop (i + 1)) (acc ++ [o]) s h) _ _ := o4
          show TM G W0 (f elt) σ2 H4 _
          refine ⟨F4, r4, s3, h3, L4, D :: (Lacc ++ R), b4.at wi5, (Out.cases o4).mono (fun o s4 h4 o5 => ?_) (fun _ _ _ _ z => z.elim)⟩
          intro F5 r5 H5 L5 v M b5 ro wi6
          have kD5 : H5 D = some (.lst vs) := (b5.kp D (by simp)).trans ((b4.kp D (by simp)).trans kD)
          have ros5 : ROs G F5 r5 H5 acc vs Lacc := (ros3.mono b4.le fun b hb => b4.kp b (by simp [hb])).mono b5.le fun b hb => b5.kp b (by simp [hb])
          refine ⟨vs, kD5, by rw [← ros5.len, ← line_eq]; omega, ?_⟩
          have inD : D ∈ M ++ (L5 ++ (D :: (Lacc ++ R))) := by simp
          have l6 := Le.own wi6 inD (by rw [kD5]; simp) (by rw [kD5]; simp) (.lst (vs ++ [v]))
          have wi7 := WI.own wi6 inD (by rw [kD5]; simp) (by rw [kD5]; simp) (.lst (vs ++ [v]))
          have nd6 := wi6.nodup
          have p3 : (M ++ (L5 ++ (D :: (Lacc ++ R)))).Perm (D :: (M ++ (L5 ++ (Lacc ++ R)))) := by
            have z : (L5 ++ (D :: (Lacc ++ R))).Perm (D :: (L5 ++ (Lacc ++ R))) := List.perm_middle
            exact (List.Perm.append_left M z).trans List.perm_middle
          have nD := (List.nodup_cons.mp (p3.nodup_iff.mp nd6)).1
          have ne : ∀ b ∈ M ++ (L5 ++ (Lacc ++ R)), upd H5 D (.lst (vs ++ [v])) b = H5 b := fun b hb => upd_ne fun ee => nD (ee ▸ hb)
          refine back ((b4.le.trans b5.le).trans l6) (fun b hb => (ne b (by simp [hb])).trans ((b5.kp b (by simp [hb])).trans (b4.kp b (by simp [hb])))) (b5.rs.mono l6 fun b hb => ne b (by simp [hb])) upd_same (ROs.append (ros5.mono l6 fun b hb => ne b (by simp [hb])) (.cons (ro.mono l6 fun b hb => ne b (by simp [hb])) .nil)) ?_ (by simp; omega)
            (Out.mono o5 (fun _ _ _ z => z) fun _ _ _ _ z => z)
          refine wi7.perm (p3.trans ?_)
          have z : (M ++ (L5 ++ (Lacc ++ R))).Perm (L5 ++ ((Lacc ++ (M ++ [])) ++ R)) := by
            rw [List.append_nil]
            have z1 : (M ++ (L5 ++ (Lacc ++ R))).Perm (L5 ++ (M ++ (Lacc ++ R))) := List.perm_append_comm_assoc ..
            have z2 : (M ++ (Lacc ++ R)).Perm (Lacc ++ (M ++ R)) := List.perm_append_comm_assoc ..
            refine z1.trans (List.Perm.append_left L5 (z2.trans ?_))
            rw [List.append_assoc]
          exact (List.Perm.cons D z).trans List.perm_middle.symm
    · rintro H' ⟨F', r', h', s', acc, L', vs, Lacc, l, kR, rs, hsl, hDv, ros, wi2, hacc, o3⟩
      rw [en, List.drop_length] at o3
      have hgd := compL_guard o3
      unfold compL at o3
      rw [if_pos hgd] at o3
      have q : PO G F r H R σ Q (.lst acc) (unwipe s1 own s') h' := o3
      refine q F' r' H' L' (.ref D) (D :: Lacc) ⟨b1.le.trans l, unwipe_rs rs (sf.mono l) nd hsl, fun b hb => (kR b hb).trans (b1.kp b hb)⟩ (.lst hDv ros) ?_
      exact wi2
  · exact o1.elim
theorem pe_mcomp {own : List Nat} {tg : Tg} {it : SL → HH → Mini.R Wk} {ifs : Option ME} {elt : ME} {eelt etg eit : Expr} {eifs : List Expr} {scope : Scope} {ow : List (Str × Nat)} {pos : Pos}
    (hc : X.calm = true) (hN : X.N.Nodup) (hi : PI X etg eit (TMi G Wx it)) (ok : BlkOk X.N X.env.scope scope ow) (how : ow.map (·.2) = own) (nd : own.Nodup) (hk : tg ≠ .skip) (hids : ∀ i ∈ tgIds tg, i ∈ own)
    (hg : ∀ (s : Shared) (H : Hp) (C : Addr) (cl : List (Str × Addr)) (fp : List Addr), PG (X.blk s H scope (compEnvC scope cl C X.env) fp) etg (gTg X.K tg))
    (ht : ∀ (s : Shared) (H : Hp) (C : Addr) (cl : List (Str × Addr)) (fp : List Addr), PTs (X.blk s H scope (compEnvC scope cl C X.env) fp) eifs (TMt G W0 (testE tf ifs)))
    (he : ∀ (s : Shared) (H : Hp) (C : Addr) (cl : List (Str × Addr)) (fp : List Addr), PE (X.blk s H scope (compEnvC scope cl C X.env) fp) eelt (TM G W0 (f elt)))
    (hs : ∀ x, foldedSetIterable eit X.env x = pure x) : PE X (.ListComp eelt [⟨etg, eit, eifs, 0⟩] scope pos) (TM G Wx fun s h => (it s h).bind fun k s h => if shOk s own && decide (k.ws.length ≤ line) then
      (compL tg own k.gs (testE tf ifs) (f elt) k.ws [] s h).nox.bind fun os s' h => .ok (.lst os) (unwipe s own s') h else .fail) := by
  exact (pe_lc hc hN hi ok hg ht he hs).weak (w_mcomp how nd hk hids)
end
end Mini
set_option Elab.async false
set_option linter.all false
set_option maxRecDepth 100000
set_option maxHeartbeats 1000000
/-! Mini: dict comprehensions whose keys are ints or texts, each of them new; what they hold is shared. -/
namespace Mini
open PySem L2
section
variable {J : It} {n : Nat} {Gd : Hp → Prop} {Y : Nat → Hp → V → Hp → Prop}
theorem dc_it (w : Walk J n Gd Y) {g : TG} {tt : TT} {tk tv : TE} {vs : List Nat} {σ : L2.St} {H1 : Hp} {D : Addr} {Qd : Hp → Prop} (Pv : Nat → Hp → Prop) (h0 : Pv 0 (upd H1 D (.dK []))) (hG : ∀ i H, i ≤ n → Pv i H → Gd H)
    (hs : ∀ i x H H', i < n → Pv i H → Y i H x H' → g x (L2.wipe σ vs) H' fun σ2 H2 => L2.wipe σ2 vs = L2.wipe σ vs ∧ tt σ2 H2 fun b H3 =>
      if b = true then tk σ2 H3 fun y H4 => tv σ2 H4 fun z H5 => ∃ kvs k, y = kV k ∧ H5 D = some (.dK kvs) ∧ kvs.length < sizeLine ∧ Pv (i + 1) (upd H5 D (.dK (putK kvs k z))) else Pv (i + 1) H3) (hd : ∀ H, Pv n H → Qd H) :
    ∃ W : Nat → Nat → Hp → Prop, (∃ m, W 0 m (upd H1 D (.dK []))) ∧ ∀ i m H, W i m H →
      (J.stop i H ∧ Qd H) ∨ (J.go i H ∧ ∃ Nx : Hp → Prop, (∀ H', Nx H' → ∃ m', m' < m ∧ W (i + 1) m' H') ∧ ∀ x H', J.yld i H x H' → g x (L2.wipe σ vs) H' fun σ2 H2 => L2.wipe σ2 vs = L2.wipe σ vs ∧ tt σ2 H2 fun b H3 =>
        if b = true then tk σ2 H3 fun y H4 => tv σ2 H4 fun z H5 => ∃ kvs k, y = kV k ∧ H5 D = some (.dK kvs) ∧ kvs.length < sizeLine ∧ Nx (upd H5 D (.dK (putK kvs k z))) else Nx H3) := by
  refine ⟨fun i m H => m = n - i ∧ (i ≤ n ∧ Pv i H), ⟨n, by omega, by omega, h0⟩, ?_⟩
  intro i m H ⟨hm, hi, p⟩
  have q := hG i H hi p
  rcases Nat.lt_or_ge i n with hlt | hge
  · right
    refine ⟨w.goes i H hlt q, Pv (i + 1), fun H' p' => ⟨n - (i + 1), by omega, rfl, hlt, p'⟩, ?_⟩
    intro x H' y
    exact hs i x H H' hlt p (w.yields i H x H' hlt q y)
  · left
    obtain rfl : i = n := by omega
    exact ⟨w.stops H q, hd H p⟩
end
section
variable {G : GI} {Wx : WX} {X : Cx} {f : ME → SL → HH → R O} {tf : ME → SL → HH → R Bool} {F F1 : Fz} {r r1 : List Addr} {H H1 : Hp} {R L L1 : List Addr} {σ : L2.St} {s s1 : SL} {h h1 : HH}
theorem dcompL_guard {tg : Tg} {own : List Nat} {gs : List (Nat × List W)} {test : SL → HH → Mini.R Bool} {key val : SL → HH → Mini.R O} {ws ks vs : List W} {s : SL} {h : HH} {P : List W × List W → SL → HH → Prop} {E : Nat → List W → SL → HH → Prop} (o : Out (dcompL tg own gs test key val ws ks vs s h) P E) : guard gs h = true := by
  cases ws <;> unfold dcompL at o <;> split at o <;> first | assumption | exact o.elim
/-- a key, as the heap has it -/
theorem rw_keyV {w : W} {v : V} (q : RW G F r H w v) (hk : keyW false w = true) : ∃ k, kOf w = some k ∧ v = kV k := by
  cases q <;> first | cases hk | skip
  · rename_i i
    exact ⟨.inl i, rfl, rfl⟩
  · rename_i z
    exact ⟨.inr ⟨z.toArray⟩, rfl, rfl⟩
theorem same_kOf {x y : W} {k k' : Key} (hx : kOf x = some k) (hy : kOf y = some k') (hn : sameK x y = false) : k ≠ k' := by
  intro e
  subst e
  cases x <;> cases hx <;> cases y <;> cases hy <;> simp [sameK] at hn
theorem put_fresh {kvs : List (Key × V)} {ks : List W} {w : W} {k : Key} {z : V} (hk : ks.map kOf = kvs.map fun p => some p.1) (hw : kOf w = some k) (hn : ks.any (fun x => sameK x w) = false) : putK kvs k z = kvs ++ [(k, z)] := by
  have : (kvs.any fun kv => decide (kv.1 = k)) = false := by
    rw [List.any_eq_false]
    intro p hp
    rw [decide_eq_true_eq]
    intro e
    have hm : some p.1 ∈ kvs.map fun p => some p.1 := List.mem_map.mpr ⟨p, hp, rfl⟩
    rw [← hk] at hm
    obtain ⟨x, hx, ex⟩ := List.mem_map.mp hm
    have := List.any_eq_false.mp hn x hx
    exact same_kOf ex hw (by simpa using this) e
  unfold putK
  rw [this]
  simp
theorem w_mdcomp {K : PySem.W.Frag} {own : List Nat} {tg : Tg} {it : SL → HH → Mini.R Wk} {ifs : Option ME} {ek ev : ME} {ow : List (Str × Nat)}
    (how : ow.map (·.2) = own) (nd : own.Nodup) (hk : tg ≠ .skip) (hids : ∀ i ∈ tgIds tg, i ∈ own) : ∀ σ H Q, TM G Wx (fun s h => (it s h).bind fun k s h => if shOk s own && decide (k.ws.length ≤ line) then
      (dcompL tg own k.gs (testE tf ifs) (f ek) (f ev) k.ws [] [] s h).nox.bind fun p s' h => .ok (.dic false p.1 (p.2.map .sh)) (unwipe s own s') h else .fail) σ H Q →
      tDc (TMi G Wx it) (gTg K tg) (TMt G W0 (testE tf ifs)) (TM G W0 (f ek)) (TM G W0 (f ev)) (ow.map (·.2)) σ H Q := by
  rintro σ H Q ⟨F, r, s, h, L, R, a0, out⟩
  refine ⟨F, r, s, h, L, R, a0, (Out.cases out).mono (fun kk s1 h1 o1 => ?_) (fun _ _ _ _ z => z)⟩
  intro F1 r1 H1 L1 J b1 wi1 tn
  obtain ⟨ws, gs⟩ := kk
  rw [how]
  split at o1
  · rename_i hcond
    simp only [Bool.and_eq_true, decide_eq_true_eq] at hcond
    obtain ⟨hsh, hlen⟩ := hcond
    intro D hD
    obtain ⟨n, Gs, Y, walk, en, hG, hY⟩ := tn
    have sf := ShF.of b1.rs hsh
    have o2 := Out.nox o1
    refine dc_it walk (fun i H' => ∃ F' r' h' s' ks vs L' kvs, Le F1 r1 H1 F' r' H' ∧ (∀ b ∈ R, H' b = H1 b) ∧ RS G F' r' H' (wipeG s' own) (wipeG σ own) L' ∧ s'.length = s1.length ∧ H' D = some (.dK kvs) ∧ ks.map kOf = (kvs.map fun p => some p.1) ∧ RWs G F' r' H' vs (kvs.map (·.2)) ∧
      WI G F' r' H' h' (D :: (L' ++ R)) ∧ ks.length ≤ i ∧ Out (dcompL tg own gs (testE tf ifs) (f ek) (f ev) (ws.drop i) ks vs s' h') (fun p s'' h'' => PO G F r H R σ Q (.dic false p.1 (p.2.map .sh)) (unwipe s1 own s'') h'') (fun _ _ _ _ => False)) ?_ ?_ ?_ ?_
    · have l := Le.new wi1 hD (.dK [])
      have kp : ∀ b ∈ L1 ++ R, upd H1 D (.dK []) b = H1 b := fun b hb => upd_ne (wi1.ne hb hD)
      refine ⟨F1, r1, h1, s1, [], [], L1, [], l, fun b hb => kp b (List.mem_append_right _ hb), (b1.rs.wipeS sf nd).mono l fun b hb => kp b (List.mem_append_left _ hb), rfl, upd_same, rfl, .nil, wi1.new hD _, Nat.le_refl _, ?_⟩
      rw [List.drop_zero]
      exact o2.mono (fun _ _ _ z => z) fun _ _ _ _ z => z
    · rintro i H' hi ⟨F', r', h', s', ks, vs, L', kvs, l, _, _, _, _, _, _, wi2, _, o3⟩
      exact hG _ _ _ _ _ l wi2 (dcompL_guard o3)
    · rintro i x H2 H3 hi ⟨F', r', h', s', ks, vs, L', kvs, l, kR, rs, hsl, hDv, hks, rvs, wi2, hacc, o3⟩ y
      have hiw : i < ws.length := en ▸ hi
      have hgd := dcompL_guard o3
      have ew : ws[i]? = some ws[i] := List.getElem?_eq_getElem hiw
      have ed : ws.drop i = ws[i] :: ws.drop (i + 1) := (List.getElem_cons_drop hiw).symm
      generalize ws[i] = w at ew ed
      obtain ⟨l2, k2, wi3, rw3⟩ := hY i w F' r' H2 x H3 h' _ l wi2 hgd y ew
      rw [ed] at o3
      have kD : H3 D = some (.dK kvs) := (k2 D (by rw [hDv]; simp)).trans hDv
      have th : ∀ b ∈ D :: (L' ++ R), H3 b = H2 b := fun b hb => k2 b (wi2.there hb)
      have rs3 : RS G F' r' H3 (wipeG s' own) (wipeG σ own) L' := rs.mono l2 fun b hb => th b (by simp [hb])
      have rvs3 : RWs G F' r' H3 vs (kvs.map (·.2)) := rvs.mono l2
      unfold dcompL at o3
      rw [if_pos hgd] at o3
      rw [wipe_G] at o3
      rw [wipe_L]
      split at o3
      · exact o3.elim
      · rename_i s2 es
        refine w_tg (s' := s2) rs3 rw3 es hk fun σ2 L2' rs2 hL2 hwp hsl2 => ?_
        have hw : wipeG σ2 own = wipeG σ own := by rw [hwp own hids, wipeG_idem]
        refine ⟨by rw [wipe_L]; exact hw, ?_⟩
        have wi4 : WI G F' r' H3 h' (L2' ++ (D :: R)) := by
          refine wi3.of (fun b hb => ?_) ?_
          · have hsub := hL2.subset
            simp only [List.mem_append, List.mem_cons] at hb ⊢
            rcases hb with q | q | q
            · exact .inr (.inl (hsub q))
            · exact .inl q
            · exact .inr (.inr q)
          · have p1 : (L2' ++ (D :: R)).Sublist (L' ++ (D :: R)) := hL2.append (List.Sublist.refl _)
            refine p1.nodup ?_
            have p2 : (D :: (L' ++ R)).Perm (L' ++ (D :: R)) := List.perm_middle.symm
            exact p2.nodup_iff.mp wi3.nodup
        refine ⟨F', r', s2, h', L2', D :: R, ⟨rs2, wi4⟩, (Out.cases o3).mono (fun b s3 h3 o4 => ?_) (fun _ _ _ _ z => z.elim)⟩
        intro F4 r4 H4 L4 b4 wi5
        have back : ∀ {F5 : Fz} {r5 : List Addr} {H5 : Hp} {h5 : HH} {L5 : List Addr} {s5 : SL} {ks5 vs5 : List W} {kvs5 : List (Key × V)}, Le F' r' H3 F5 r5 H5 → (∀ b ∈ R, H5 b = H3 b) → RS G F5 r5 H5 s5 σ2 L5 → H5 D = some (.dK kvs5) → ks5.map kOf = (kvs5.map fun p => some p.1) → RWs G F5 r5 H5 vs5 (kvs5.map (·.2)) →
            WI G F5 r5 H5 h5 (L5 ++ (D :: R)) → ks5.length ≤ i + 1 → Out (dcompL tg own gs (testE tf ifs) (f ek) (f ev) (ws.drop (i + 1)) ks5 vs5 s5 h5) (fun p s'' h'' => PO G F r H R σ Q (.dic false p.1 (p.2.map .sh)) (unwipe s1 own s'') h'') (fun _ _ _ _ => False) →
            ∃ F' r' h' s' ks vs L' kvs, Le F1 r1 H1 F' r' H5 ∧ (∀ b ∈ R, H5 b = H1 b) ∧ RS G F' r' H5 (wipeG s' own) (wipeG σ own) L' ∧ s'.length = s1.length ∧ H5 D = some (.dK kvs) ∧ ks.map kOf = (kvs.map fun p => some p.1) ∧ RWs G F' r' H5 vs (kvs.map (·.2)) ∧
              WI G F' r' H5 h' (D :: (L' ++ R)) ∧ ks.length ≤ i + 1 ∧ Out (dcompL tg own gs (testE tf ifs) (f ek) (f ev) (ws.drop (i + 1)) ks vs s' h') (fun p s'' h'' => PO G F r H R σ Q (.dic false p.1 (p.2.map .sh)) (unwipe s1 own s'') h'') (fun _ _ _ _ => False) := by
          intro F5 r5 H5 h5 L5 s5 ks5 vs5 kvs5 l5 k5 rs5 hD5 hks5 rvs5 wi5 ha5 o5
          obtain ⟨L6, rs6, hL6⟩ := rs5.wipe own
          rw [hw] at rs6
          refine ⟨F5, r5, h5, s5, ks5, vs5, L6, kvs5, (l.trans l2).trans l5, fun b hb => (k5 b hb).trans ((th b (by simp [hb])).trans (kR b hb)), rs6, ?_, hD5, hks5, rvs5, ?_, ha5, o5⟩
          · have e1 := rs5.len
            have e2 := rs2.len
            rw [e1, ← e2, hsl2, wipeG_len, hsl]
          · have p2 : (L6 ++ (D :: R)).Perm (D :: (L6 ++ R)) := List.perm_middle
            refine (wi5.of (R' := L6 ++ (D :: R)) (fun b hb => ?_) ((hL6.append (List.Sublist.refl _)).nodup wi5.nodup)).perm p2
            exact (hL6.append (List.Sublist.refl (D :: R))).subset hb
        cases b with
        | false =>
          show ∃ F' r' h' s' ks vs L' kvs, _
          refine back b4.le (fun b hb => b4.kp b (by simp [hb])) b4.rs ((b4.kp D (by simp)).trans kD) hks (rvs3.mono b4.le) wi5 (by omega) ?_
          exact Out.mono (show Out (dcompL tg own gs (testE tf ifs) (f ek) (f ev) (ws.drop (i + 1)) ks vs s3 h3) _ _ from o4) (fun _ _ _ z => z) fun _ _ _ _ z => z
        | true =>
          have o4 : Out ((f ek s3 h3).bind fun k s h => (f ev s h).bind fun v s h => if keyW false k.toW && !(ks.any fun x => sameK x k.toW) then dcompL tg own gs (testE tf ifs) (f ek) (f ev) (ws.drop (i + 1)) (ks ++ [k.toW]) (vs ++ [v.toW]) s h else .fail) _ _ := o4
          show TM G W0 (f ek) σ2 H4 _
          refine ⟨F4, r4, s3, h3, L4, D :: R, b4.at wi5, (Out.cases o4).mono (fun ok s4 h4 o5 => ?_) (fun _ _ _ _ z => z.elim)⟩
          intro F5 r5 H5 L5 v M b5 rok wi6
          have kw := rok.shareM
          refine ⟨fun a => F5 a ∨ a ∈ M, r5, s4, h4, L5, D :: R, b5.share.at wi6.share, (Out.cases o5).mono (fun ov s5 h5 o6 => ?_) (fun _ _ _ _ z => z.elim)⟩
          intro F6 r6 H6 L6 v2 M2 b6 rov wi7
          have vw := rov.shareM
          have b6s := b6.share (M := M2)
          have wi7s := wi7.share
          split at o6
          · rename_i hc
            rw [Bool.and_eq_true, Bool.not_eq_true'] at hc
            obtain ⟨key, hkey, rfl⟩ := rw_keyV kw hc.1
            have kD6 : H6 D = some (.dK kvs) := (b6.kp D (by simp)).trans ((b5.kp D (by simp)).trans ((b4.kp D (by simp)).trans kD))
            have le6 : Le F' r' H3 (fun a => F6 a ∨ a ∈ M2) r6 H6 := (b4.le.trans b5.share.le).trans b6s.le
            refine ⟨kvs, key, rfl, kD6, ?_, ?_⟩
            · have e := congrArg List.length hks
              rw [List.length_map, List.length_map] at e
              rw [← e, ← line_eq]
              omega
            rw [put_fresh hks hkey hc.2]
            have inD : D ∈ L6 ++ (D :: R) := by simp
            have l6 := Le.own wi7s inD (by rw [kD6]; simp) (by rw [kD6]; simp) (.dK (kvs ++ [(key, v2)]))
            have wi8 := WI.own wi7s inD (by rw [kD6]; simp) (by rw [kD6]; simp) (.dK (kvs ++ [(key, v2)]))
            have nd6 := wi7s.nodup
            have p3 : (L6 ++ (D :: R)).Perm (D :: (L6 ++ R)) := List.perm_middle
            have nD := (List.nodup_cons.mp (p3.nodup_iff.mp nd6)).1
            have ne : ∀ b ∈ L6 ++ R, upd H6 D (.dK (kvs ++ [(key, v2)])) b = H6 b := fun b hb => upd_ne fun ee => nD (ee ▸ hb)
            refine back (le6.trans l6) (fun b hb => (ne b (by simp [hb])).trans ((b6.kp b (by simp [hb])).trans ((b5.kp b (by simp [hb])).trans (b4.kp b (by simp [hb]))))) (b6s.rs.mono l6 fun b hb => ne b (by simp [hb])) upd_same (by simp [hks, hkey]) ?_ wi8 (by simp; omega) (Out.mono o6 (fun _ _ _ z => z) fun _ _ _ _ z => z)
            rw [List.map_append]
            exact RWs.append ((rvs3.mono le6).mono l6) (.cons (vw.mono l6) .nil)
          · exact o6.elim
    · rintro H' ⟨F', r', h', s', ks, vs, L', kvs, l, kR, rs, hsl, hDv, hks, rvs, wi2, hacc, o3⟩
      rw [en, List.drop_length] at o3
      have hgd := dcompL_guard o3
      unfold dcompL at o3
      rw [if_pos hgd] at o3
      have q : PO G F r H R σ Q (.dic false ks (vs.map .sh)) (unwipe s1 own s') h' := o3
      refine q F' r' H' L' (.ref D) [D] ⟨b1.le.trans l, unwipe_rs rs (sf.mono l) nd hsl, fun b hb => (kR b hb).trans (b1.kp b hb)⟩ (.dicK hDv hks (ROs.shs rvs)) ?_
      exact wi2
  · exact o1.elim
theorem pe_mdcomp {own : List Nat} {tg : Tg} {it : SL → HH → Mini.R Wk} {ifs : Option ME} {ek ev : ME} {ekx evx etg eit : Expr} {eifs : List Expr} {scope : Scope} {ow : List (Str × Nat)} {pos : Pos}
    (hc : X.calm = true) (hN : X.N.Nodup) (hi : PI X etg eit (TMi G Wx it)) (ok : BlkOk X.N X.env.scope scope ow) (how : ow.map (·.2) = own) (nd : own.Nodup) (hk : tg ≠ .skip) (hids : ∀ i ∈ tgIds tg, i ∈ own)
    (hg : ∀ (s : Shared) (H : Hp) (C : Addr) (cl : List (Str × Addr)) (fp : List Addr), PG (X.blk s H scope (compEnvC scope cl C X.env) fp) etg (gTg X.K tg))
    (ht : ∀ (s : Shared) (H : Hp) (C : Addr) (cl : List (Str × Addr)) (fp : List Addr), PTs (X.blk s H scope (compEnvC scope cl C X.env) fp) eifs (TMt G W0 (testE tf ifs)))
    (hkx : ∀ (s : Shared) (H : Hp) (C : Addr) (cl : List (Str × Addr)) (fp : List Addr), PE (X.blk s H scope (compEnvC scope cl C X.env) fp) ekx (TM G W0 (f ek)))
    (hvx : ∀ (s : Shared) (H : Hp) (C : Addr) (cl : List (Str × Addr)) (fp : List Addr), PE (X.blk s H scope (compEnvC scope cl C X.env) fp) evx (TM G W0 (f ev)))
    (hs : ∀ x, foldedSetIterable eit X.env x = pure x) : PE X (.DictComp ekx evx [⟨etg, eit, eifs, 0⟩] scope pos) (TM G Wx fun s h => (it s h).bind fun k s h => if shOk s own && decide (k.ws.length ≤ line) then
      (dcompL tg own k.gs (testE tf ifs) (f ek) (f ev) k.ws [] [] s h).nox.bind fun p s' h => .ok (.dic false p.1 (p.2.map .sh)) (unwipe s own s') h else .fail) := by
  exact (pe_dc hc hN hi ok hg ht hkx hvx hs).weak (w_mdcomp how nd hk hids)
end
section
variable {X : Cx}
/-- name = {..} on one row, the name a local -/
theorem ps_setDc {i : Nat} {y : Str} {py : Pos} {kx vx tg iter : Expr} {ifs : List Expr} {scope : Scope} {own : List (Str × Nat)} {pos spos : Pos} {wi : TI} {g : TG} {tt : TT} {tk tv : TE} (hc : X.calm = true) (hN : X.N.Nodup) (hy : X.N[i]? = some y) (hyl : X.env.scope.names.lookup y = some .local)
    (hsw : swapsWith (.DictComp kx vx [⟨tg, iter, ifs, 0⟩] scope pos) (some (.Name y py)) spos.line X.env = pure true) (hi : PI X tg iter wi) (ok : BlkOk X.N X.env.scope scope own)
    (hg : ∀ (s : Shared) (H : Hp) (C : Addr) (cl : List (Str × Addr)) (fp : List Addr), PG (X.blk s H scope (compEnvC scope cl C X.env) fp) tg g)
    (ht : ∀ (s : Shared) (H : Hp) (C : Addr) (cl : List (Str × Addr)) (fp : List Addr), PTs (X.blk s H scope (compEnvC scope cl C X.env) fp) ifs tt)
    (hk : ∀ (s : Shared) (H : Hp) (C : Addr) (cl : List (Str × Addr)) (fp : List Addr), PE (X.blk s H scope (compEnvC scope cl C X.env) fp) kx tk)
    (hv : ∀ (s : Shared) (H : Hp) (C : Addr) (cl : List (Str × Addr)) (fp : List Addr), PE (X.blk s H scope (compEnvC scope cl C X.env) fp) vx tv) (hs : ∀ x, foldedSetIterable iter X.env x = pure x) :
    PS X (.Assign [.Name y py] (.DictComp kx vx [⟨tg, iter, ifs, 0⟩] scope pos) spos) (tAsg (tDc wi g tt tk tv (own.map (·.2))) (gName i)) := by
  refine ⟨fun pins s σ H D I h => ?_⟩
  rw [exec_Assign_Name_used _ _ _ _ hsw]
  refine wpAny_bind (wpAny_standAt (wpAny_bind ?_))
  show wpAny _ X.A (do
    let _ ← comprehension (.DictComp kx vx [⟨tg, iter, ifs, 0⟩] scope pos) scope X.env (firstIterPos [⟨tg, iter, ifs, 0⟩] pos) newDict false (eval iter X.env) (some (assign (.Name y py) X.env))) _ _ s
  have h : tDc wi g tt tk tv (own.map (·.2)) σ H (fun x H1 => gName i x σ H1 D.nx) := h
  refine wpAny_bind (thn (dc_core (Qf := fun _ s' => SP X pins D .next s') hc hN I hi ok hg ht hk hv hs h fun L C s' m H' J q hn f => ?_) fun _ s' hq => wpAny_pure (wpAny_pure hq))
  show wpAny _ _ (assign (.Name y py) X.env (.ref L)) _ _ _
  refine wpAny_assign_Name (store_ok2 (v := V.ref L) J hN hy (.inl hyl) rfl (fun s2 J2 ⟨a, sb, ha⟩ => ?_) (.inr hyl))
  obtain ⟨g0, g1, g2, g3, g4, g5⟩ := f
  have ne : C ≠ a := by
    rcases ha with z | z
    · rw [z]
      exact g1
    · exact fun e => g4 y a z e.symm
  refine ⟨m, hn.sameBut sb ne, fun h3 sb3 => ?_⟩
  exact ⟨_, H', J2.turned (t' := s2.toks) (fun b o hb e => (sb3.2 b hb).trans e) g0 g1 g3 g4 g5, q⟩
end
end Mini
set_option Elab.async false
set_option linter.all false
set_option maxRecDepth 100000
set_option maxHeartbeats 1000000
/-! Mini: cells that are made known for a call, and hidden behind it. -/
namespace Mini
open PySem L2
def pubH (H : Hp) (cs : List (Addr × Obj)) : Hp := fun b => match cs.lookup b with
  | some o => some (cellHO o)
  | none => H b
def unpH (H : Hp) (cs : List (Addr × Obj)) : Hp := fun b => if (cs.lookup b).isSome then none else H b
theorem pubH_ne {H : Hp} {cs : List (Addr × Obj)} {b : Addr} (h : cs.lookup b = none) : pubH H cs b = H b := by
  unfold pubH
  rw [h]
theorem pubH_at {H : Hp} {cs : List (Addr × Obj)} {b : Addr} {o : Obj} (h : cs.lookup b = some o) : pubH H cs b = some (cellHO o) := by
  unfold pubH
  rw [h]
theorem unpH_ne {H : Hp} {cs : List (Addr × Obj)} {b : Addr} (h : cs.lookup b = none) : unpH H cs b = H b := by
  unfold unpH
  rw [h]
  rfl
theorem unpH_at {H : Hp} {cs : List (Addr × Obj)} {b : Addr} {o : Obj} (h : cs.lookup b = some o) : unpH H cs b = none := by
  unfold unpH
  rw [h]
  rfl
theorem pub_cases {H : Hp} {cs : List (Addr × Obj)} {b : Addr} {u : HO} (h : pubH H cs b = some u) : (∃ o, cs.lookup b = some o ∧ u = cellHO o) ∨ (cs.lookup b = none ∧ H b = some u) := by
  cases e : cs.lookup b with
  | none => rw [pubH_ne e] at h; exact .inr ⟨rfl, h⟩
  | some o => rw [pubH_at e] at h; exact .inl ⟨o, rfl, (Option.some.inj h).symm⟩
theorem unp_cases {H : Hp} {cs : List (Addr × Obj)} {b : Addr} {u : HO} (h : unpH H cs b = some u) : cs.lookup b = none ∧ H b = some u := by
  cases e : cs.lookup b with
  | none => rw [unpH_ne e] at h; exact ⟨rfl, h⟩
  | some o => rw [unpH_at e] at h; cases h
/-- the cells of a running context, as they stand -/
structure OwnC (X : Cx) (H : Hp) (s : Shared) (cs : List (Addr × Obj)) : Prop where
  at_ : ∀ c o, cs.lookup c = some o → s.heap.get? c = some o ∧ H c = none ∧ X.base.get? c = none ∧ c ∉ frs X.stack
section
variable {P : Program} {w : World} {X : Cx} {pins : List (Addr × Obj)} {σ : L2.St} {H H1 : Hp} {s s' : Shared} {cs : List (Addr × Obj)}
theorem pub_hok (hok : HOk P w H s.heap) (hc : ∀ c o, cs.lookup c = some o → s.heap.get? c = some o ∧ H c = none) : HOk P w (pubH H cs) s.heap := by
  intro b u hu
  rcases pub_cases hu with ⟨o, e, rfl⟩ | ⟨e, hb⟩
  · have g := (hc b o e).1
    exact ⟨g, trivial, ⟨o, g⟩, fun _ _ _ _ => trivial⟩
  · have keep : ∀ d v, H d = some v → pubH H cs d = some v := fun d v hd => by
      cases e2 : cs.lookup d with
      | none => rw [pubH_ne e2]; exact hd
      | some o => rw [(hc d o e2).2] at hd; cases hd
    exact (hok b u hb).stay (fun d v _ q => q) (fun d q => keep d _ q) fun d xs q => keep d _ q
theorem unp_hok {h : Heap} (hok : HOk P w H1 h) (hc : ∀ c o, cs.lookup c = some o → H1 c = some (cellHO o)) : HOk P w (unpH H1 cs) h := by
  intro b u hu
  obtain ⟨e, hb⟩ := unp_cases hu
  have keep : ∀ d v, H1 d = some v → (∀ o, v ≠ cellHO o) → unpH H1 cs d = some v := fun d v hd hv => by
    cases e2 : cs.lookup d with
    | none => rw [unpH_ne e2]; exact hd
    | some o =>
      rw [hc d o e2] at hd
      exact absurd (Option.some.inj hd).symm (hv o)
  exact (hok b u hb).stay (fun d v _ q => q) (fun d q => keep d _ q (fun o z => by cases z)) fun d xs q => keep d _ q (fun o z => by cases z)
/-- what a callee sees -/
theorem pub_env0 (I : Inv X pins σ H s) (oc : OwnC X H s cs) : Env0 X.prog X.w X.K X.mg X.base X.A X.stack s (pubH H cs) := by
  have e0 := I.env0
  have nb : ∀ b, (X.base.get? b).isSome = true → cs.lookup b = none := fun b hb => by
    cases e : cs.lookup b with
    | none => rfl
    | some o => rw [(oc.at_ b o e).2.2.1] at hb; cases hb
  have nf : ∀ b, b ∈ frs X.stack → cs.lookup b = none := fun b hb => by
    cases e : cs.lookup b with
    | none => rfl
    | some o => exact absurd hb (oc.at_ b o e).2.2.2
  exact ⟨e0.frames, e0.mod, fun b o hb => ⟨(e0.bs b o hb).1, by rw [pubH_ne (nb b (by rw [hb]; rfl))]; exact (e0.bs b o hb).2⟩, e0.bsz, e0.funs, fun b hb => by rw [pubH_ne (nf b hb)]; exact e0.frf b hb,
    pub_hok e0.hok fun c o q => ⟨(oc.at_ c o q).1, (oc.at_ c o q).2.1⟩, e0.bare⟩
/-- behind it: the cells as they were -/
theorem unp_un {fs ex : List Addr} {h h' : Heap} (u : Un fs ex (pubH H cs) H1 h h') (oc : ∀ c o, cs.lookup c = some o → h.get? c = some o ∧ H c = none) (hfs : ∀ c o, cs.lookup c = some o → c ∉ fs) (hok : HOk P w H1 h') : (∀ c o, cs.lookup c = some o → H1 c = some (cellHO o)) ∧ Un fs ex H (unpH H1 cs) h h' := by
  have k : ∀ c o, cs.lookup c = some o → H1 c = some (cellHO o) := fun c o e => u.frzs c o _ (pubH_at e)
  refine ⟨k, ⟨fun b o e n hb hx => ?_, fun b o e n hb hx => ?_, fun b o e n hx => ?_, u.there, fun b xs e => ?_, fun b o v e => ?_, fun b ps e => ?_⟩⟩
  · cases q : cs.lookup b with
    | none => exact u.keep b o e (by rw [pubH_ne q]; exact n) hb hx
    | some o2 =>
      have a1 := (oc b o2 q).1
      rw [e] at a1
      cases a1
      exact (hok b _ (k b o q)).1
  · cases q : cs.lookup b with
    | none => exact u.slot b o e (by rw [pubH_ne q]; exact n) hb hx
    | some o2 => exact absurd hb (hfs b o2 q)
  · cases q : cs.lookup b with
    | none => rw [unpH_ne q]; exact u.free b o e (by rw [pubH_ne q]; exact n) hx
    | some o2 => exact unpH_at q
  · cases q : cs.lookup b with
    | some o2 => rw [(oc b o2 q).2] at e; cases e
    | none => rw [unpH_ne q]; exact u.tups b xs (by rw [pubH_ne q]; exact e)
  · cases q : cs.lookup b with
    | some o2 => rw [(oc b o2 q).2] at e; cases e
    | none => rw [unpH_ne q]; exact u.frzs b o v (by rw [pubH_ne q]; exact e)
  · cases q : cs.lookup b with
    | some o2 => rw [(oc b o2 q).2] at e; cases e
    | none =>
      obtain ⟨more, z⟩ := u.tbls b ps (by rw [pubH_ne q]; exact e)
      exact ⟨more, by rw [unpH_ne q]; exact z⟩
theorem unp_after {Q : VK} {u : Value} (I : Inv X pins σ H s) (oc : OwnC X H s cs) (h : CE X.stack X.prog X.w (pubH H cs) s Q u s') :
    ∃ v H1, Inv X pins σ (unpH H1 cs) s' ∧ RelV v u ∧ Q v H1 ∧ ∀ c o, cs.lookup c = some o → H1 c = some (cellHO o) := by
  obtain ⟨v, H1, os, bare, un, hok, r, q⟩ := h
  obtain ⟨k, un2⟩ := unp_un un (fun c o e => ⟨(oc.at_ c o e).1, (oc.at_ c o e).2.1⟩) (fun c o e => (oc.at_ c o e).2.2.2) hok
  obtain ⟨hh, g, d, t, os'⟩ := s'
  obtain rfl : os' = s.os := os
  exact ⟨v, H1, I.call (h' := hh) (g' := g) (d' := d) (t' := t) (ch := []) un2 (unp_hok hok k) bare (fun b z => absurd z (by simp)), r, q, k⟩
/-- an exception behind it -/
theorem unp_cx {E : XK} {u : Value} (oc : ∀ c o, cs.lookup c = some o → s.heap.get? c = some o ∧ H c = none) (hfs : ∀ c o, cs.lookup c = some o → c ∉ frs X.stack)
    (h : L2.CX X.prog X.w X.stack (pubH H cs) s E u s') : L2.CX X.prog X.w X.stack H s (fun cls d H2 => ∃ H1, H2 = unpH H1 cs ∧ E cls d H1 ∧ ∀ c o, cs.lookup c = some o → H1 c = some (cellHO o)) u s' := by
  obtain ⟨a, B, H1, cls, d, eu, fl, hok, ub, na, os, ag, hE⟩ := h
  have k : ∀ c o, cs.lookup c = some o → H1 c = some (cellHO o) := fun c o e => ub.frzs c o _ (pubH_at e)
  refine ⟨a, B, unpH H1 cs, cls, d, eu, fl, unp_hok hok k, ⟨fun b o e n hb => ?_, ub.slot, fun b o e n => ?_, ub.there, fun b xs e => ?_, fun b o v e => ?_, fun b ps e => ?_⟩, ?_, os, ag, H1, rfl, hE, k⟩
  · cases q : cs.lookup b with
    | none => exact ub.keep b o e (by rw [pubH_ne q]; exact n) hb
    | some o2 =>
      have a1 := (oc b o2 q).1
      rw [e] at a1
      cases a1
      exact (hok b _ (k b o q)).1
  · cases q : cs.lookup b with
    | none => rw [unpH_ne q]; exact ub.free b o e (by rw [pubH_ne q]; exact n)
    | some o2 => exact unpH_at q
  · cases q : cs.lookup b with
    | some o2 => rw [(oc b o2 q).2] at e; cases e
    | none => rw [unpH_ne q]; exact ub.tups b xs (by rw [pubH_ne q]; exact e)
  · cases q : cs.lookup b with
    | some o2 => rw [(oc b o2 q).2] at e; cases e
    | none => rw [unpH_ne q]; exact ub.frzs b o v (by rw [pubH_ne q]; exact e)
  · cases q : cs.lookup b with
    | some o2 => rw [(oc b o2 q).2] at e; cases e
    | none =>
      obtain ⟨more, z⟩ := ub.tbls b ps (by rw [pubH_ne q]; exact e)
      exact ⟨more, by rw [unpH_ne q]; exact z⟩
  · cases q : cs.lookup a with
    | some o2 => exact unpH_at q
    | none => rw [unpH_ne q]; exact na
end
end Mini
set_option Elab.async false
set_option linter.all false
set_option maxRecDepth 100000
set_option maxHeartbeats 1000000
/-! Mini: cells made known and hidden, what the relations say of it. -/
namespace Mini
open PySem L2
section
variable {G : GI} {F F1 : Fz} {r r1 : List Addr} {H H1 : Hp} {R L L1 : List Addr} {σ : L2.St} {s s1 : SL} {h h1 : HH}
theorem pub_one {H : Hp} {c : Addr} {o : Obj} : pubH H [(c, o)] = upd H c (cellHO o) := by
  funext b
  by_cases e : b = c
  · subst e
    rw [upd_same, pubH_at (o := o)]
    simp [List.lookup]
  · rw [upd_ne e, pubH_ne]
    have : (b == c) = false := by simpa using e
    simp [List.lookup, this]
theorem RH.pub1 : ∀ {h : HH} {q L : List Addr} {j : Nat} {c : Addr} {o : Obj} {u : Value} {w : W} {v : V}, RH G F r H h q L → H c = Option.none → h[j]? = Option.some (.cell Option.none) → q[j]? = Option.some c →
    o.data = .cell (Option.some u) → RelV v u → RW G F r (L2.upd H c (cellHO o)) w v → Le F r H F r (L2.upd H c (cellHO o)) → (∀ a ∈ L, a ≠ c) → ∃ L', RH G F r (L2.upd H c (cellHO o)) (h.set j (.cell (Option.some w))) q L' ∧ L'.Perm (c :: L)
  | _, _, _, j, _, _, _, _, _, .nil, _, e, _, _, _, _, _, _ => by simp at e
  | _, _, _, 0, c, o, u, w, v, .lst _ _ _, _, e, _, _, _, _, _, _ => by simp at e
  | _, _, _, 0, c, o, u, w, v, .cel _ _ _ _ _, _, e, _, _, _, _, _, _ => by simp at e
  | _, _, _, 0, c, o, u, w, v, .cel0 (L := L) b, hc, e, e2, d, rv, rw', l, n => by
    simp at e2
    subst e2
    exact ⟨_, .cel upd_same d rv rw' (b.mono l fun x hx => upd_ne (n x hx)), List.Perm.refl _⟩
  | _, _, _, j + 1, c, o, u, w, v, .lst (a := a) (L := L) x y b, hc, e, e2, d, rv, rw', l, n => by
    obtain ⟨L', h1, h2⟩ := RH.pub1 (j := j) b hc (by simpa using e) (by simpa using e2) d rv rw' l fun x hx => n x (List.mem_cons_of_mem _ hx)
    exact ⟨a :: L', .lst ((upd_ne (n a List.mem_cons_self)).trans x) (y.mono l) h1, (List.Perm.cons a h2).trans (List.Perm.swap ..)⟩
  | _, _, _, j + 1, c, o, u, w, v, .cel (a := a) (L := L) x y z t b, hc, e, e2, d, rv, rw', l, n => by
    obtain ⟨L', h1, h2⟩ := RH.pub1 (j := j) b hc (by simpa using e) (by simpa using e2) d rv rw' l fun x hx => n x (List.mem_cons_of_mem _ hx)
    exact ⟨a :: L', .cel ((upd_ne (n a List.mem_cons_self)).trans x) y z (t.mono l) h1, (List.Perm.cons a h2).trans (List.Perm.swap ..)⟩
  | _, _, _, j + 1, c, o, u, w, v, .cel0 b, hc, e, e2, d, rv, rw', l, n => by
    obtain ⟨L', h1, h2⟩ := RH.pub1 (j := j) b hc (by simpa using e) (by simpa using e2) d rv rw' l n
    exact ⟨L', .cel0 h1, h2⟩
/-- one cell is made known -/
theorem WI.pub1 (wi : WI G F r H h R) {j : Nat} {c : Addr} {o : Obj} {u : Value} {w : W} {v : V} (hc : H c = none) (ej : h[j]? = some (.cell none)) (er : r[j]? = some c) (d : o.data = .cell (some u)) (rv : RelV v u) (q : RW G F r H w v) :
    Le F r H F r (upd H c (cellHO o)) ∧ WI G F r (upd H c (cellHO o)) (h.set j (.cell (some w))) R ∧ ∀ b, H b ≠ none → upd H c (cellHO o) b = H b := by
  have l := Le.new wi hc (cellHO o)
  have kp : ∀ b, H b ≠ none → upd H c (cellHO o) b = H b := fun b hb => upd_ne fun e => hb (by rw [e]; exact hc)
  refine ⟨l, ?_, kp⟩
  obtain ⟨⟨L, h1, h2, h3⟩, ff, tb, ow⟩ := wi
  have ne : ∀ a ∈ L ++ R, a ≠ c := fun a ha e => (h3 a ha).2.1 (by rw [e]; exact hc)
  obtain ⟨L', q1, q2⟩ := h1.pub1 hc ej er d rv (q.mono l) l fun a ha => ne a (List.mem_append_left _ ha)
  have pm : (L' ++ R).Perm (c :: (L ++ R)) := q2.append_right R
  refine ⟨⟨L', q1, pm.nodup_iff.mpr (List.nodup_cons.mpr ⟨fun z => ne c z rfl, h2⟩), fun a ha => ?_⟩, fun a fa => ?_, tabs_upd tb (fun ps e => by rw [hc] at e; cases e) (fun φ e => by rw [hc] at e; cases e), ow⟩
  · rcases List.mem_cons.mp (pm.mem_iff.mp ha) with e | e
    · subst e
      exact ⟨fun fa => (ff _ fa).1 hc, Tr.fresh (T := tb) hc (by rw [upd_same]; simp)⟩
    · exact ⟨(h3 a e).1, (h3 a e).2.at_ (by rw [upd_ne (ne a e)]; exact (h3 a e).2.1)⟩
  · exact (ff a fa).at_ (by rw [upd_ne fun (e : a = c) => (ff a fa).1 (by rw [e]; exact hc)]; exact (ff a fa).1)
def hideH (H : Hp) (c : Addr) : Hp := fun b => if b = c then none else H b
theorem hide_ne {H : Hp} {c b : Addr} (h : b ≠ c) : hideH H c b = H b := if_neg h
theorem RH.unp1 : ∀ {h : HH} {q L : List Addr} {j : Nat} {c : Addr} {w : W}, RH G F r H h q L → L.Nodup → h[j]? = Option.some (.cell (Option.some w)) → q[j]? = Option.some c → Le F r H F r (hideH H c) →
    ∃ L', RH G F r (hideH H c) (h.set j (.cell Option.none)) q L' ∧ L.Perm (c :: L') ∧ ∃ o u v, H c = Option.some (cellHO o) ∧ o.data = .cell (Option.some u) ∧ RelV v u ∧ RW G F r H w v
  | _, _, _, j, _, _, .nil, _, e, _, _ => by simp at e
  | _, _, _, 0, c, w, .lst _ _ _, _, e, _, _ => by simp at e
  | _, _, _, 0, c, w, .cel0 _, _, e, _, _ => by simp at e
  | _, _, _, 0, c, w, .cel (L := L) x y z t b, nd, e, e2, l => by
    simp at e e2
    subst e e2
    exact ⟨L, .cel0 (b.mono l fun a ha => hide_ne fun ee => (List.nodup_cons.mp nd).1 (ee ▸ ha)), List.Perm.refl _, _, _, _, x, y, z, t⟩
  | _, _, _, j + 1, c, w, .lst (a := a) (L := L) x y b, nd, e, e2, l => by
    obtain ⟨L', h1, h2, h3⟩ := RH.unp1 (j := j) b (List.nodup_cons.mp nd).2 (by simpa using e) (by simpa using e2) l
    have na : a ≠ c := fun ee => (List.nodup_cons.mp nd).1 (by rw [ee]; exact h2.mem_iff.mpr List.mem_cons_self)
    exact ⟨a :: L', .lst ((hide_ne na).trans x) (y.mono l) h1, (List.Perm.cons a h2).trans (List.Perm.swap ..), h3⟩
  | _, _, _, j + 1, c, w, .cel (a := a) (L := L) x y z t b, nd, e, e2, l => by
    obtain ⟨L', h1, h2, h3⟩ := RH.unp1 (j := j) b (List.nodup_cons.mp nd).2 (by simpa using e) (by simpa using e2) l
    have na : a ≠ c := fun ee => (List.nodup_cons.mp nd).1 (by rw [ee]; exact h2.mem_iff.mpr List.mem_cons_self)
    exact ⟨a :: L', .cel ((hide_ne na).trans x) y z (t.mono l) h1, (List.Perm.cons a h2).trans (List.Perm.swap ..), h3⟩
  | _, _, _, j + 1, c, w, .cel0 b, nd, e, e2, l => by
    obtain ⟨L', h1, h2, h3⟩ := RH.unp1 (j := j) b nd (by simpa using e) (by simpa using e2) l
    exact ⟨L', .cel0 h1, h2, h3⟩
/-- one cell is hidden again -/
theorem WI.unp1 (wi : WI G F r H h R) {j : Nat} {c : Addr} {w : W} {o : Obj} (hc : H c = some (cellHO o)) (ho : ∀ fd, o.data ≠ .func fd) (ej : h[j]? = some (.cell (some w))) (er : r[j]? = some c) :
    Le F r H F r (hideH H c) ∧ WI G F r (hideH H c) (h.set j (.cell none)) R ∧ c ∉ R ∧ ∃ u v, o.data = .cell (some u) ∧ RelV v u ∧ RW G F r H w v := by
  have wi0 := wi
  obtain ⟨⟨L, h1, h2, h3⟩, ff, tb, ow⟩ := wi
  have cL : c ∈ L := by
    have : ∀ {h : HH} {q L : List Addr} {j : Nat}, RH G F r H h q L → h[j]? = some (.cell (some w)) → q[j]? = some c → c ∈ L := by
      intro h q L j hh
      induction hh generalizing j with
      | nil => intro e; simp at e
      | lst x y b ih =>
        intro e e2
        cases j with
        | zero => simp at e
        | succ j => exact List.mem_cons_of_mem _ (ih (by simpa using e) (by simpa using e2))
      | cel x y z t b ih =>
        intro e e2
        cases j with
        | zero => simp at e2; subst e2; exact List.mem_cons_self
        | succ j => exact List.mem_cons_of_mem _ (ih (by simpa using e) (by simpa using e2))
      | cel0 b ih =>
        intro e e2
        cases j with
        | zero => simp at e
        | succ j => exact ih (by simpa using e) (by simpa using e2)
    exact this h1 ej er
  have nF : ¬ F c := (h3 c (List.mem_append_left _ cL)).1
  have l : Le F r H F r (hideH H c) := ⟨fun _ z => z, fun a fa => hide_ne fun (e : a = c) => nF (e ▸ fa), ⟨[], by simp⟩, fun a xs e => by rw [hide_ne fun ee => by rw [ee, hc] at e; cases e]; exact e,
    fun a o2 u e d => by
      rw [hide_ne fun ee => by
        rw [ee, hc] at e
        cases e
        rcases d with ⟨fd, d⟩ | ⟨xs, d⟩
        · exact ho fd d
        · cases d]
      exact e, fun a φ e => by rw [hide_ne fun ee => by rw [ee, hc] at e; cases e]; exact e⟩
  obtain ⟨L', q1, q2, o2, u, v, q3, q4, q5, q6⟩ := h1.unp1 (List.nodup_append.mp h2).1 ej er l
  rw [hc] at q3
  cases q3
  have cR : c ∉ R := fun hr => (List.nodup_append.mp h2).2.2 c cL c hr rfl
  have pm : (L ++ R).Perm (c :: (L' ++ R)) := q2.append_right R
  have nd := pm.nodup_iff.mp h2
  refine ⟨l, ⟨⟨L', q1, (List.nodup_cons.mp nd).2, fun a ha => ?_⟩, fun a fa => ?_, fun p hp => ?_, ow⟩, cR, u, v, q4, q5, q6⟩
  · have na : a ≠ c := fun e => (List.nodup_cons.mp nd).1 (e ▸ ha)
    have z := h3 a (pm.mem_iff.mpr (List.mem_cons_of_mem _ ha))
    exact ⟨z.1, z.2.at_ (by rw [hide_ne na]; exact z.2.1)⟩
  · exact (ff a fa).at_ (by rw [hide_ne fun (e : a = c) => nF (e ▸ fa)]; exact (ff a fa).1)
  · obtain ⟨ps, a, b, c'⟩ := tb p hp
    refine ⟨ps, by rw [hide_ne fun ee => by rw [ee, hc] at a; cases a]; exact a, b, fun pos cv e => ?_⟩
    obtain ⟨d, e1, e2⟩ := c' pos cv e
    have e2' : H d = some (.ext _) := e2
    exact ⟨d, e1, by rw [hide_ne fun ee => by rw [ee, hc] at e2'; cases e2']; exact e2⟩
end
end Mini
set_option Elab.async false
set_option linter.all false
set_option maxRecDepth 100000
set_option maxHeartbeats 1000000
/-! Mini: a frame's own cells around a call. -/
namespace Mini
open PySem L2
/-- slot i's name is a cell of the frame, its heap place is j -/
def Cel (X : Cx) (G : GI) (i j : Nat) : Prop := ∃ x c, X.N[i]? = some x ∧ Vis X.env.scope x ∧ (X.env.kindOf x = some .cell ∨ X.env.kindOf x = some .free) ∧ X.env.cells.lookup x = some c ∧ (j, c) ∈ G.own ∧ (X.fn x = true ∨ (X.base.get? c = none ∧ c ∉ frs X.stack))
def CeOk (X : Cx) (G : GI) (ce : List (Option Nat)) : Prop := ∀ i j, ce[i]? = some (some j) → Cel X G i j
inductive Jc (G : GI) : List Nat → List (Addr × Obj) → Prop where
  | nil : Jc G [] []
  | cons {j : Nat} {c : Addr} {o : Obj} {js : List Nat} {cs : List (Addr × Obj)} : (j, c) ∈ G.own → (∃ u, o.data = .cell (some u)) → cs.lookup c = none → Jc G js cs → Jc G (j :: js) ((c, o) :: cs)
theorem pub_cons {H : Hp} {c : Addr} {o : Obj} {cs : List (Addr × Obj)} (h : cs.lookup c = none) : pubH H ((c, o) :: cs) = pubH (upd H c (cellHO o)) cs := by
  funext b
  by_cases e : b = c
  · subst e
    rw [pubH_ne h, upd_same]
    exact pubH_at (by simp [List.lookup])
  · have e2 : (b == c) = false := by simpa using e
    cases q : cs.lookup b with
    | none => rw [pubH_ne q, upd_ne e]; exact pubH_ne (by simp [List.lookup, e2, q])
    | some o2 => rw [pubH_at q]; exact pubH_at (by simp [List.lookup, e2, q])
theorem unp_cons {H : Hp} {c : Addr} {o : Obj} {cs : List (Addr × Obj)} : unpH H ((c, o) :: cs) = unpH (hideH H c) cs := by
  funext b
  by_cases e : b = c
  · subst e
    rw [unpH_at (o := o) (by simp [List.lookup])]
    cases q : cs.lookup b with
    | none => rw [unpH_ne q]; exact (if_pos rfl).symm
    | some o2 => rw [unpH_at q]
  · have e2 : (b == c) = false := by simpa using e
    cases q : cs.lookup b with
    | none => rw [unpH_ne q, hide_ne e]; exact unpH_ne (by simp [List.lookup, e2, q])
    | some o2 => rw [unpH_at q]; exact unpH_at (o := o2) (by simp [List.lookup, e2, q])
section
variable {G : GI} {F F1 : Fz} {r r1 : List Addr} {H H1 : Hp} {R L L1 : List Addr} {σ : L2.St} {s s1 : SL} {h h1 : HH} {X : Cx} {pins : List (Addr × Obj)} {sh : Shared}
theorem lookup_cons_ne {c b : Addr} {o : Obj} {cs : List (Addr × Obj)} (h : b ≠ c) : ((c, o) :: cs).lookup b = cs.lookup b := by
  have e2 : (b == c) = false := by simpa using h
  simp [List.lookup, e2]
theorem lookup_cons_eq {c : Addr} {o : Obj} {cs : List (Addr × Obj)} : ((c, o) :: cs).lookup c = some o := by simp [List.lookup]
/-- the content of a cell of the frame -/
theorem cell_look (ok : X.Ok) (hl : ∃ m, sh.heap.Ns X.env.locals m ∧ ∀ (i : Nat) (x : Str) (v : V), X.N[i]? = some x → σ[i]? = some (some v) → Vis X.env.scope x → ∃ u, RelV v u ∧ Look X.env sh.heap m x u) {i : Nat} {x : Str} {c : Addr} {v : V} (h1 : X.N[i]? = some x) (h2 : σ[i]? = some (some v)) (h3 : Vis X.env.scope x)
    (h4 : X.env.kindOf x = some .cell ∨ X.env.kindOf x = some .free) (h5 : X.env.cells.lookup x = some c) : ∃ u o, RelV v u ∧ sh.heap.get? c = some o ∧ o.data = .cell (some u) := by
  obtain ⟨m, _, hl⟩ := hl
  obtain ⟨u, rv, q⟩ := hl i x v h1 h2 h3
  rcases q with ⟨k, _⟩ | ⟨_, c', e, o, ho, hd⟩
  · rcases h4 with z | z <;> rw [z] at k <;> cases k
  · rw [h5] at e
    cases e
    exact ⟨u, o, rv, ho, hd⟩
theorem own_far (I : L2.Inv X pins σ H sh) {x : Str} {c : Addr} (h1 : X.env.cells.lookup x = some c) (h2 : X.fn x = true) : X.base.get? c = none ∧ c ∉ frs X.stack := by
  have hz := I.ok.cab x c h2 h1
  refine ⟨Heap.get?_none_of_le (Nat.le_trans I.ok.bsz hz), fun hm => ?_⟩
  rcases List.mem_cons.mp (I.stkSub c hm) with e | hf
  · exact I.cne x c h1 e
  · obtain ⟨_, o, ho, _⟩ := I.ok.funs.mem hf
    exact absurd (Heap.lt_size ho) (Nat.not_lt_of_le hz)
theorem pub_okG (Ob : Addr → Obj → Prop) (nd : X.N.Nodup) (inj : ∀ (x y : Str) (c : Addr), X.env.cells.lookup x = some c → X.env.cells.lookup y = some c → x = y) (hcb : ∀ x c, X.env.cells.lookup x = some c → X.fn x = true → X.base.get? c = none ∧ c ∉ frs X.stack)
    (look : ∀ (i : Nat) (x : Str) (c : Addr) (v : V), X.N[i]? = some x → σ[i]? = some (some v) → Vis X.env.scope x → (X.env.kindOf x = some .cell ∨ X.env.kindOf x = some .free) → X.env.cells.lookup x = some c → ∃ u o, RelV v u ∧ Ob c o ∧ o.data = .cell (some u)) :
    ∀ {ce : List (Option Nat)} {i : Nat} {F : Fz} {H : Hp} {s : SL} {h : HH} {L : List Addr} {js : List Nat} {s' : SL} {h' : HH}, (∀ k j, ce[k]? = some (some j) → Cel X G (i + k) j) → (∀ k x c, X.N[i + k]? = some x → X.env.cells.lookup x = some c → H c = none) →
      RS G F r H s σ L → WI G F r H h (L ++ R) → pubC i ce s h = some (js, s', h') →
      ∃ cs F' L', RS G F' r (pubH H cs) s' σ L' ∧ WI G F' r (pubH H cs) h' (L' ++ R) ∧ Le F r H F' r (pubH H cs) ∧ (∀ b, H b ≠ none → pubH H cs b = H b) ∧ Jc G js cs ∧
        ∀ c o, cs.lookup c = some o → Ob c o ∧ H c = none ∧ X.base.get? c = none ∧ c ∉ frs X.stack
  | [], i, F, H, s, h, L, js, s', h', _, _, rs, wi, e => by
    cases e
    have z : pubH H [] = H := funext fun b => pubH_ne rfl
    exact ⟨[], F, L, by rw [z]; exact rs, by rw [z]; exact wi, by rw [z]; exact Le.refl _ _ _, fun b _ => by rw [z], .nil, fun c o q => by cases q⟩
  | none :: ce, i, F, H, s, h, L, js, s', h', hc, hH, rs, wi, e => pub_okG Ob nd inj hcb look (ce := ce) (i := i + 1) (fun k j q => by
      have := hc (k + 1) j (by simpa using q)
      rw [show i + 1 + k = i + (k + 1) from by omega]; exact this) (fun k x c q => hH (k + 1) x c (by rw [show i + (k + 1) = i + 1 + k from by omega]; exact q)) rs wi e
  | some j :: ce, i, F, H, s, h, L, js, s', h', hc, hH, rs, wi, e => by
    have hc' : ∀ k j, ce[k]? = some (some j) → Cel X G (i + 1 + k) j := fun k j q => by
      have := hc (k + 1) j (by simpa using q)
      rw [show i + 1 + k = i + (k + 1) from by omega]; exact this
    unfold pubC at e
    split at e
    · rename_i o eo
      split at e
      · rename_i ej
        split at e
        · rename_i js0 s0 h0 e0
          cases e
          obtain ⟨x, c, n1, n2, n3, n4, n5, n67⟩ := hc 0 j rfl
          obtain ⟨n6, n7⟩ := n67.elim (hcb x c n4) id
          rw [Nat.add_zero] at n1
          have hi := (List.getElem?_eq_some_iff.mp eo).1
          obtain ⟨A, M, B, eL, rA, rB, cc⟩ := rs.split i hi
          rcases cc with ⟨e1, _⟩ | ⟨o', v, e1, e2, ro⟩
          · rw [eo] at e1; cases e1
          rw [eo] at e1
          cases e1
          have hcn : H c = none := hH 0 x c (by rw [Nat.add_zero]; exact n1) n4
          obtain ⟨u, ob, rv, ho, hd⟩ := look i x c v n1 e2 n2 n3 n4
          have q := RS.mk (M := []) hi rs.len (rA.mono Le.share fun _ _ => rfl) (rB.mono Le.share fun _ _ => rfl) (RO.sh ro.shareM)
          rw [set_get e2] at q
          have q : RS G (fun a => F a ∨ a ∈ M) r H (s.set i (some (.sh o.toW))) σ (A ++ B) := by simpa using q
          have w1 : WI G (fun a => F a ∨ a ∈ M) r H h ((A ++ B) ++ R) := by
            refine WI.share (M := M) (wi.perm ?_)
            rw [eL]
            have : (A ++ (M ++ B)).Perm (M ++ (A ++ B)) := List.perm_append_comm_assoc ..
            exact (this.append_right R).trans (by rw [List.append_assoc])
          obtain ⟨l2, w2, k2⟩ := w1.pub1 hcn ej (w1.lk _ n5) hd rv ro.shareM
          have rs2 := q.mono l2 fun b hb => k2 b (w1.there (List.mem_append_left _ hb))
          have hH2 : ∀ k x' c', X.N[i + 1 + k]? = some x' → X.env.cells.lookup x' = some c' → upd H c (cellHO ob) c' = none := fun k x' c' q1 q2 => by
            have hne : c' ≠ c := fun ee => by
              have := inj x' x c' q2 (by rw [ee]; exact n4)
              subst this
              have := nodup_ix nd n1 q1
              omega
            rw [upd_ne hne]
            exact hH (k + 1) x' c' (by rw [show i + (k + 1) = i + 1 + k from by omega]; exact q1) q2
          obtain ⟨cs, F', L', rs3, w3, l3, k3, jc, fc⟩ := pub_okG Ob nd inj hcb look (ce := ce) (i := i + 1) hc' hH2 rs2 w2 e0
          have hcs : cs.lookup c = none := by
            cases qq : cs.lookup c with
            | none => rfl
            | some o2 =>
              have := (fc c o2 qq).2.1
              rw [upd_same] at this
              cases this
          refine ⟨(c, ob) :: cs, F', L', ?_, ?_, ?_, ?_, .cons n5 ⟨u, hd⟩ hcs jc, fun c' o' q' => ?_⟩
          · rw [pub_cons hcs]; exact rs3
          · rw [pub_cons hcs]; exact w3
          · rw [pub_cons hcs]; exact (Le.share.trans l2).trans l3
          · intro b hb
            rw [pub_cons hcs, k3 b (by rw [k2 b hb]; exact hb), k2 b hb]
          · by_cases ee : c' = c
            · subst ee
              rw [lookup_cons_eq] at q'
              cases q'
              exact ⟨ho, hcn, n6, n7⟩
            · rw [lookup_cons_ne ee] at q'
              obtain ⟨f1, f2, f3, f4⟩ := fc c' o' q'
              rw [upd_ne ee] at f2
              exact ⟨f1, f2, f3, f4⟩
        · cases e
      · cases e
    · exact pub_okG Ob nd inj hcb look (ce := ce) (i := i + 1) hc' (fun k x c q => hH (k + 1) x c (by rw [show i + (k + 1) = i + 1 + k from by omega]; exact q)) rs wi e
theorem pub_ok (nd : X.N.Nodup) (hcb : ∀ x c, X.env.cells.lookup x = some c → X.fn x = true → X.base.get? c = none ∧ c ∉ frs X.stack) (ok : X.Ok) (hl : ∃ m, sh.heap.Ns X.env.locals m ∧ ∀ (i : Nat) (x : Str) (v : V), X.N[i]? = some x → σ[i]? = some (some v) → Vis X.env.scope x → ∃ u, RelV v u ∧ Look X.env sh.heap m x u) :
    ∀ {ce : List (Option Nat)} {i : Nat} {F : Fz} {H : Hp} {s : SL} {h : HH} {L : List Addr} {js : List Nat} {s' : SL} {h' : HH}, (∀ k j, ce[k]? = some (some j) → Cel X G (i + k) j) → (∀ k x c, X.N[i + k]? = some x → X.env.cells.lookup x = some c → H c = none) →
      RS G F r H s σ L → WI G F r H h (L ++ R) → pubC i ce s h = some (js, s', h') →
      ∃ cs F' L', RS G F' r (pubH H cs) s' σ L' ∧ WI G F' r (pubH H cs) h' (L' ++ R) ∧ Le F r H F' r (pubH H cs) ∧ (∀ b, H b ≠ none → pubH H cs b = H b) ∧ Jc G js cs ∧
        ∀ c o, cs.lookup c = some o → sh.heap.get? c = some o ∧ H c = none ∧ X.base.get? c = none ∧ c ∉ frs X.stack :=
  pub_okG (fun c o => sh.heap.get? c = some o) nd ok.inj hcb fun i x c v h1 h2 h3 h4 h5 => cell_look ok hl h1 h2 h3 h4 h5
theorem unp_ok : ∀ {js : List Nat} {cs : List (Addr × Obj)} {H : Hp} {h h' : HH} {R : List Addr}, Jc G js cs → WI G F r H h R → (∀ c o, cs.lookup c = some o → H c = some (cellHO o)) → unpC js h = some h' →
    WI G F r (unpH H cs) h' R ∧ Le F r H F r (unpH H cs) ∧ ∀ b ∈ R, unpH H cs b = H b
  | _, _, H, h, h', R, .nil, wi, _, e => by
    cases e
    have z : unpH H [] = H := funext fun b => unpH_ne rfl
    exact ⟨by rw [z]; exact wi, by rw [z]; exact Le.refl _ _ _, fun b _ => by rw [z]⟩
  | _, _, H, h, h', R, .cons (j := j) (c := c) (o := o) (js := js) (cs := cs) n5 hd hcs jc, wi, hk, e => by
    unfold unpC at e
    split at e
    · rename_i w ej
      obtain ⟨u, hd⟩ := hd
      have hc := hk c o lookup_cons_eq
      obtain ⟨l1, w1, cR, _⟩ := wi.unp1 hc (fun fd z => by rw [hd] at z; cases z) ej (wi.lk _ n5)
      have hk2 : ∀ c' o', cs.lookup c' = some o' → hideH H c c' = some (cellHO o') := fun c' o' q => by
        have hne : c' ≠ c := fun ee => by rw [ee, hcs] at q; cases q
        rw [hide_ne hne]
        exact hk c' o' (by rw [lookup_cons_ne hne]; exact q)
      obtain ⟨w2, l2, k2⟩ := unp_ok jc w1 hk2 e
      refine ⟨by rw [unp_cons]; exact w2, by rw [unp_cons]; exact l1.trans l2, fun b hb => ?_⟩
      rw [unp_cons, k2 b hb]
      exact hide_ne fun ee => cR (ee ▸ hb)
    · cases e
theorem WI.to0 (w : WI G F r H h R) : WI ⟨G.toGS, []⟩ F r H h R := ⟨w.rh, w.ff, w.tabs, fun p hp => by cases hp⟩
theorem WI.of0 (w : WI ⟨G.toGS, []⟩ F r H h R) (o : ∀ p ∈ G.own, r[p.1]? = some p.2) : WI G F r H h R := ⟨w.rh, w.ff, w.tabs, o⟩
end
end Mini
set_option Elab.async false
set_option linter.all false
set_option maxRecDepth 100000
set_option maxHeartbeats 1000000
/-! Mini: a lambda is made. -/
namespace Mini
open PySem L2
section
variable {X : Cx} {pins : List (Addr × Obj)} {σ : L2.St} {H : Hp} {s : Shared}
abbrev lamQ (X : Cx) : Str := X.env.qual ++ "<lambda>"
theorem lam_at {T : List (Addr × Str)} {c P : Addr} {params : Arguments} {body : Expr} {scope : Scope} {pos : Pos} {E : Value → Shared → Prop} {Q : Value → Shared → Prop} (inv : L2.Inv X pins σ H s) (tb : LamX.TabB X.base X.mg c P) (co : X.env.code = .ref c)
    (inT : (P, lamQ X) ∈ T) (one : ∀ p ∈ T, p.1 = P → p.2 = lamQ X) (tabs : LamX.Tabs T H) (nodef : defaultsOf params X.env = ([], [])) (caught : ∀ y ∈ scope.names, y.2 = .free → ∃ c, X.env.cells.lookup y.1 = some c)
    (k : ∀ (f c' : Addr) (pm ctv : Value) (H1 : Hp) (s' : Shared), L2.Inv X pins σ (upd H1 f (.frz (PySem.W.kla_obj "<lambda>" (lamQ X) params body scope (cloFrom X.env.cells scope.names []) pm c' ctv) (.ext fun _ => True))) s' → H1 f = none → LamX.ExtN H H1 → LamX.Tabs T H1 →
      (∀ b, b ≠ P → H b ≠ none → H1 b = H b) → H1 c' = some (LamX.CodeO c' (lamQ X)) → Q (.ref f) s') :
    wpAny (model X.prog X.w) X.A (eval (.Lambda params body scope pos) X.env) Q E s := by
  obtain ⟨tbl, atP, triples, known⟩ := tabs _ inT
  have here : s.heap.BuiltinsAt X.mg P := tb.bm.keeps inv.bk
  have objP : s.heap.get? P = some { cls := .none, data := .fields tbl } := inv.hok P _ atP
  refine PySem.W.kla_eval nodef ?_
  cases found : codeAmong pos tbl.toList with
  | some cv =>
    obtain ⟨c', rfl, isC⟩ := known pos cv found
    refine PySem.W.kla_makeFunctionHit (c := c) (P := P) (ps := tbl) (mg := X.mg) (closure_ok caught) inv.ok.glob (inv.mod.glob.keeps inv.bk) co (tb.code.keeps inv.bk) objP triples found here fun ctv hp tok grow size => ?_
    have J : L2.Inv X pins σ H { s with heap := hp, toks := tok } := inv.kept fun b o e => grow b o e
    have Z := J.laid (t' := tok) (a := hp.objs.size) (h' := hp.push (PySem.W.kla_obj "<lambda>" (lamQ X) params body scope (cloFrom X.env.cells scope.names []) ((X.mg "__name__").getD .none) c' ctv)) (o := .frz (PySem.W.kla_obj "<lambda>" (lamQ X) params body scope (cloFrom X.env.cells scope.names []) ((X.mg "__name__").getD .none) c' ctv) (.ext fun _ => True))
      (fun b u e => Heap.get?_push_of_some _ e) (Nat.le_refl _) ⟨Heap.get?_push_size _ rfl, trivial, ⟨_, Heap.get?_push_size _ rfl⟩, fun _ _ _ _ => trivial⟩
    exact k hp.objs.size c' _ ctv H _ Z (inv.hok.fresh size) (LamX.ExtN.refl H) tabs (fun _ _ _ => rfl) isC
  | none =>
    refine PySem.W.kla_makeFunction (c := c) (P := P) (ps := tbl) (mg := X.mg) (closure_ok caught) inv.ok.glob (inv.mod.glob.keeps inv.bk) co (tb.code.keeps inv.bk) objP triples found tb.gP here fun c' ctv hp tok grow hge hlt rec tab => ?_
    obtain ⟨c2, oc, vs, t, e2, hoc, hd, hv⟩ := rec
    cases e2
    have cN : H c' = none := inv.hok.fresh hge
    have pc : P ≠ c' := ne_of_none atP cN
    have J := LamX.inv_table (q := lamQ X) (t' := tok) (more := #[rawInt pos.line, rawInt pos.col, .ref c']) (h' := hp) inv atP (fun b o hb e => grow b o hb e) tab hge ⟨oc, vs, t, hoc, hd, hv⟩
    have Z := J.laid (t' := tok) (a := hp.objs.size) (h' := hp.push (PySem.W.kla_obj "<lambda>" (lamQ X) params body scope (cloFrom X.env.cells scope.names []) ((X.mg "__name__").getD .none) c' ctv)) (o := .frz (PySem.W.kla_obj "<lambda>" (lamQ X) params body scope (cloFrom X.env.cells scope.names []) ((X.mg "__name__").getD .none) c' ctv) (.ext fun _ => True))
      (fun b u e => Heap.get?_push_of_some _ e) (Nat.le_refl _) ⟨Heap.get?_push_size _ rfl, trivial, ⟨_, Heap.get?_push_size _ rfl⟩, fun _ _ _ _ => trivial⟩
    have same : ∀ b, b ≠ P → H b ≠ none → upd (upd H P (.tbl (tbl ++ #[rawInt pos.line, rawInt pos.col, .ref c']))) c' (LamX.CodeO c' (lamQ X)) b = H b := fun b h1 h2 => by
      rw [upd_ne fun e => h2 (by rw [e]; exact cN), upd_ne h1]
    have ext : LamX.ExtN H (upd (upd H P (.tbl (tbl ++ #[rawInt pos.line, rawInt pos.col, .ref c']))) c' (LamX.CodeO c' (lamQ X))) := fun b o e n => by
      rw [same b (fun ee => n tbl (Option.some.inj (e.symm.trans (by rw [ee]; exact atP)))) (by rw [e]; simp)]
      exact e
    refine k hp.objs.size c' _ ctv _ _ Z (J.hok.fresh (Nat.le_refl _)) ext (fun p hp' => ?_) same upd_same
    have flat : (tbl ++ #[rawInt pos.line, rawInt pos.col, .ref c']).toList = tbl.toList ++ [rawInt pos.line, rawInt pos.col, .ref c'] := by simp
    by_cases isP : p.1 = P
    · rw [one p hp' isP, isP]
      refine ⟨_, by rw [upd_ne pc, upd_same], by rw [flat]; exact PySem.TriplesOk_snoc _ _ _ _ triples, fun p' cv z => ?_⟩
      rw [flat] at z
      rcases LamX.among_app _ triples z with y | y
      · obtain ⟨d, d1, d2⟩ := known p' cv y
        exact ⟨d, d1, ext _ _ d2 LamX.codeO_ne⟩
      · exact ⟨c', y, upd_same⟩
    · obtain ⟨ps', a1, a2, a3⟩ := tabs p hp'
      refine ⟨ps', by rw [same p.1 isP (by rw [a1]; simp)]; exact a1, a2, fun p' cv z => ?_⟩
      obtain ⟨d, d1, d2⟩ := a3 p' cv z
      exact ⟨d, d1, ext _ _ d2 LamX.codeO_ne⟩
end
end Mini
set_option Elab.async false
set_option linter.all false
set_option maxRecDepth 100000
set_option maxHeartbeats 1000000
/-! Mini: a lambda is made, as Mini has it. -/
namespace Mini
open PySem L2
theorem celsOf_get {ce : List (Option Nat)} : ∀ {is cs : List Nat}, celsOf ce is = some cs → cs.length = is.length ∧ ∀ k i j : Nat, is[k]? = some i → cs[k]? = some j → ce[i]? = some (some j)
  | [], _, e => by cases e; exact ⟨rfl, fun k i j h => by simp at h⟩
  | a :: is, cs, e => by
    unfold celsOf at e
    split at e
    · rename_i j0 js e1 e2
      cases e
      obtain ⟨h1, h2⟩ := celsOf_get e2
      refine ⟨by simp [h1], fun k i j q1 q2 => ?_⟩
      cases k with
      | zero =>
        simp at q1 q2
        subst q1 q2
        exact e1
      | succ k => exact h2 k i j (by simpa using q1) (by simpa using q2)
    · cases e
section
variable {G : GI} {Wx : WX} {X : Cx} {F F1 : Fz} {r r1 : List Addr} {H H1 : Hp} {R L L1 : List Addr} {σ : L2.St} {s s1 : SL} {h h1 : HH}
theorem clo_look {cells : List (Str × Addr)} {names : List (Str × NameKind)} {x : Str} {c : Addr} (hx : (x, .free) ∈ names) (e : cells.lookup x = some c) : (cloFrom cells names []).lookup x = some c := by
  obtain ⟨c', e'⟩ := L2.mem_lookup (cloFrom_has (cells := cells) (acc := []) hx)
  rcases cloFrom_mem (PySem.mem_of_lookup e') with z | ⟨_, z⟩
  · cases z
  · rw [e] at z
    rw [e', z]
    rfl
theorem pe_mlam {ce : List (Option Nat)} {l : Nat} {is : List Nat} {fv : List Str} {c P : Addr} {params : Arguments} {body : Expr} {scope : Scope} {pos : Pos} (hce : CeOk X G ce) (tb : LamX.TabB X.base X.mg c P) (co : X.env.code = .ref c) (inT : (P, lamQ X) ∈ G.tabs) (one : ∀ p ∈ G.tabs, p.1 = P → p.2 = lamQ X)
    (nodef : defaultsOf params X.env = ([], [])) (hld : G.lok l ⟨lamQ X, params, body, scope, fv⟩) (hfv : ∀ x, (x, NameKind.free) ∈ scope.names ↔ x ∈ fv) (hlen : is.length = fv.length) (his : ∀ (k i : Nat) (x : Str), is[k]? = some i → fv[k]? = some x → X.N[i]? = some x)
    (hall : ∀ x ∈ fv, X.env.scope.names.lookup x = some .cell ∨ X.env.scope.names.lookup x = some .free) :
    PE X (.Lambda params body scope pos) (TM G Wx fun s h => match celsOf ce is with
      | some cs => .ok (.sh (.clo l cs)) s h
      | none => .fail) := by
  refine ⟨fun pins s σ H Q I hq => ?_⟩
  obtain ⟨F, r, s0, h, L, R, a, out⟩ := hq
  cases ec : celsOf ce is with
  | none =>
    simp only [ec] at out
    exact out.elim
  | some cs =>
    simp only [ec] at out
    obtain ⟨hl2, hg⟩ := celsOf_get ec
    have caught : ∀ y ∈ scope.names, y.2 = .free → ∃ c, X.env.cells.lookup y.1 = some c := fun y hy e => I.ok.has y.1 (hall y.1 ((hfv y.1).mp (by rw [← e]; exact hy)))
    refine lam_at I tb co inT one a.wi.tabs nodef caught fun f c' pm ctv H1 s' J fN ext tabs same isC => ?_
    have neF : ∀ b u, H1 b = some u → b ≠ f := fun b u e z => by rw [z, fN] at e; cases e
    have look : ∀ x, x ∈ fv → ∀ c, X.env.cells.lookup x = some c → (cloFrom X.env.cells scope.names []).lookup x = some c := fun x hx c e => clo_look ((hfv x).mpr hx) e
    have back : ∀ x c, (cloFrom X.env.cells scope.names []).lookup x = some c → x ∈ fv ∧ X.env.cells.lookup x = some c := fun x c e => by
      rcases cloFrom_mem (PySem.mem_of_lookup e) with z | ⟨z, z2⟩
      · cases z
      · obtain ⟨c1, e1⟩ := caught _ z rfl
        have e1 : X.env.cells.lookup x = some c1 := e1
        rw [e1] at z2
        exact ⟨(hfv x).mp z, by rw [z2]; exact e1⟩
    have tr : ∀ b, Tr G H b → upd H1 f (.frz (PySem.W.kla_obj "<lambda>" (lamQ X) params body scope (cloFrom X.env.cells scope.names []) pm c' ctv) (.ext fun _ => True)) b = H b := fun b t => by
      have e := same b (fun ee => t.2 _ inT ee.symm) t.1
      cases q : H b with
      | none => exact absurd q t.1
      | some u =>
        rw [q] at e
        rw [upd_ne (neF b u e)]
        exact e
    have up : ∀ b u, H b = some u → (∀ ps, u ≠ .tbl ps) → upd H1 f (.frz (PySem.W.kla_obj "<lambda>" (lamQ X) params body scope (cloFrom X.env.cells scope.names []) pm c' ctv) (.ext fun _ => True)) b = some u := fun b u e n => by
      have e1 := ext b u e n
      rw [upd_ne (neF b u e1)]
      exact e1
    have le : Le F r H F r (upd H1 f (.frz (PySem.W.kla_obj "<lambda>" (lamQ X) params body scope (cloFrom X.env.cells scope.names []) pm c' ctv) (.ext fun _ => True))) :=
      ⟨fun _ z => z, fun b fb => tr b (a.wi.ff b fb), ⟨[], by simp⟩, fun b xs e => up b _ e (fun ps z => by cases z), fun b o u e _ => up b _ e (fun ps z => by cases z), fun b φ e => up b _ e (fun ps z => by cases z)⟩
    obtain ⟨⟨LL, h1, h2, h3⟩, ff, tb0, lk⟩ := a.wi
    have kp : ∀ b ∈ LL ++ (L ++ R), upd H1 f (.frz (PySem.W.kla_obj "<lambda>" (lamQ X) params body scope (cloFrom X.env.cells scope.names []) pm c' ctv) (.ext fun _ => True)) b = H b := fun b hb => tr b (h3 b hb).2
    have wi' : WI G F r (upd H1 f (.frz (PySem.W.kla_obj "<lambda>" (lamQ X) params body scope (cloFrom X.env.cells scope.names []) pm c' ctv) (.ext fun _ => True))) h (L ++ R) :=
      ⟨⟨LL, h1.mono le fun b hb => kp b (List.mem_append_left _ hb), h2, fun b hb => ⟨(h3 b hb).1, (h3 b hb).2.at_ (by rw [kp b hb]; exact (h3 b hb).2.1)⟩⟩, fun b fb => (ff b fb).at_ (by rw [tr b (ff b fb)]; exact (ff b fb).1), tabs_upd tabs (fun ps e => by rw [fN] at e; cases e) (fun φ e => by rw [fN] at e; cases e), lk⟩
    refine ⟨.ref f, _, J, rfl, out F r _ L (.ref f) [] ⟨le, a.rs.mono le fun b hb => kp b (List.mem_append_right _ (List.mem_append_left _ hb)), fun b hb => kp b (List.mem_append_right _ (List.mem_append_right _ hb))⟩ (.sh ?_) wi'⟩
    refine RW.clo (li := ⟨lamQ X, params, body, scope, fv⟩) (c' := c') (pm := pm) (ctv := ctv) (cells := cloFrom X.env.cells scope.names []) hld ?_ ?_ ?_ ?_ ?_ ?_
    · unfold lamHO
      exact upd_same
    · rw [upd_ne (neF c' _ isC)]
      exact isC
    · rw [hl2]
      exact hlen
    · intro k j x e1 e2
      have hk : k < is.length := by rw [← hl2]; exact (List.getElem?_eq_some_iff.mp e1).1
      have ei : is[k]? = some is[k] := List.getElem?_eq_getElem hk
      obtain ⟨y, c, n1, n2, n3, n4, n5, n6⟩ := hce _ _ (hg k _ j ei e1)
      have ny := his k _ x ei e2
      rw [n1] at ny
      cases ny
      exact ⟨c, look _ (List.mem_of_getElem? e2) c n4, lk _ n5⟩
    · intro x y c e1 e2
      exact I.ok.inj x y c (back x c e1).2 (back y c e2).2
    · intro x c e1
      exact (back x c e1).1
end
end Mini
set_option Elab.async false
set_option linter.all false
set_option maxRecDepth 100000
set_option maxHeartbeats 1000000
/-! Mini: comprehensions, the block's own cells told to its parts. -/
namespace Mini
open PySem L2
section
variable {X : Cx}
/-- the cells of a block that begins at t -/
abbrev blkCl (X : Cx) (sc : Scope) (t : Shared) : List (Str × Addr) := cellsFrom (t.heap.objs.size + 1) sc.names (cloFrom X.env.cells sc.names [])
/-- the block's context -/
abbrev Xb (X : Cx) (sc : Scope) (t : Shared) (Hb : Hp) (fp : List Addr) : Cx := X.blk t Hb sc (compEnvC sc (blkCl X sc t) t.heap.objs.size X.env) fp
abbrev blkS (sc : Scope) (t : Shared) : Shared := { t with heap := pushCells (t.heap.push { cls := .type "dict", data := .dict #[] }) sc.names }
abbrev newL (t : Shared) : Shared := { t with heap := t.heap.push { cls := .type "list", data := .seq ([] : List Value).toArray } }
/-- own cells are none of the base's -/
def Far (X : Cx) : Prop := ∀ x c, X.env.cells.lookup x = some c → X.fn x = true → X.base.get? c = none ∧ c ∉ frs X.stack
/-- what stands between two turns -/
def Bet (B : Cx) (τ : L2.St) (tn : Nat → Heap → Prop) (fp : List Addr) (W : Nat → Nat → Hp → Prop) (n : Nat) (t : Shared) : Prop :=
  ∃ i K, L2.Inv B [] τ K t ∧ tn i t.heap ∧ (∀ b ∈ fp, K b = none) ∧ W i n K
theorem Bet.stat {t0 : Shared} {K0 : Hp} {sc : Scope} {ce : Env} {fp : List Addr} {τ : L2.St} {K : Hp} {t : Shared} (J : L2.Inv (X.blk t0 K0 sc ce fp) [] τ K t) (no : ∀ b ∈ fp, K b = none) : ∀ b ∈ fp, FpOk (X.blk t0 K0 sc ce fp) [] K b :=
  fun b hb => ⟨no b hb, (J.ok.exf b hb).1, J.ok.exfs b hb, .inl hb, fun y c z => (J.ok.exf b hb).2 y c z, fun q hq => absurd (show q ∈ ([] : List (Addr × Obj)) ++ [] from hq) (by simp)⟩
theorem pe_lcb {ex tg iter : Expr} {ifs : List Expr} {sc : Scope} {own : List (Str × Nat)} {pos : Pos} {wi : TI} {g : TG} {tt : TT} {te : TE} (calm : X.calm = true) (nd : X.N.Nodup) (pit : PI X tg iter wi) (blk : BlkOk X.N X.env.scope sc own)
    (ptg : ∀ (t : Shared) (K : Hp) (fp : List Addr), PG (Xb X sc t K fp) tg g) (ptt : ∀ (t : Shared) (K : Hp) (fp : List Addr), PTs (Xb X sc t K fp) ifs tt) (pel : ∀ (t : Shared) (K : Hp) (fp : List Addr), Far X → PE (Xb X sc t K fp) ex te)
    (fold : ∀ x, foldedSetIterable iter X.env x = pure x) : PE X (.ListComp ex [⟨tg, iter, ifs, 0⟩] sc pos) (tLc wi g tt te (own.map (·.2))) := by
  refine ⟨fun pins t σ K Q J asks => ?_⟩
  have frees : ∀ y ∈ sc.names, y.2 = .free → ∃ c, X.env.cells.lookup y.1 = some c := fun y hy e => J.ok.has _ (blk.free y hy e)
  rw [eval_ListComp]
  refine wpAny_comprehension_free (use := none) rfl fold (closure_ok frees) blk.kind (fun y hy e => (blk.uniq y hy).trans (by rw [e])) (thn (pit.run pins t σ K _ J asks) fun xv t1 h1 => thn h1 fun iv t2 h2 => ?_)
  obtain ⟨it, fp, tn, In, K2, rfl, J2, T, s0, fok, q⟩ := h2
  refine wpAny_newObj_type (newEnv_comp ?_) (show 0 ≤ sizeLine from Nat.zero_le _)
  have free2 : K2 t2.heap.objs.size = none := J2.hok.fresh (Nat.le_refl _)
  obtain ⟨W, ⟨m0, w0⟩, turn⟩ := q t2.heap.objs.size free2
  show codeAny _ _ (.compStart _ 0 _ _ (compEnvC sc (blkCl X sc (newL t2)) (newL t2).heap.objs.size X.env)) (compPost (model X.prog X.w) X.A X.xe none (fun u s' => EP X pins σ Q u s') (.ref t2.heap.objs.size) (newL t2).heap.objs.size) (blkS sc (newL t2))
  -- behind the new list
  have old1 : ∀ b o, t2.heap.get? b = some o → (newL t2).heap.get? b = some o := fun b o e => Heap.get?_push_of_some _ e
  have J3 : L2.Inv X pins σ (upd K2 t2.heap.objs.size (.lst [])) (newL t2) := J2.laid (t' := t2.toks) old1 (Nat.le_refl _) ⟨Nat.zero_le _, [], 0, .nil, Heap.get?_push_size _ rfl⟩
  have lts : ∀ b ∈ fp, b < t2.heap.objs.size := fun b hb => (T.obj _ _ s0 b hb).elim fun o e => Heap.lt_size e.1
  have fok3 : ∀ b ∈ fp, FpOk X pins (upd K2 t2.heap.objs.size (.lst [])) b ∧ b < (newL t2).heap.objs.size := fun b hb => by
    have l := lts b hb
    have h0 : upd K2 t2.heap.objs.size (.lst []) b = none := by
      rw [upd_ne (Nat.ne_of_lt l)]
      exact (fok b hb).1
    refine ⟨⟨h0, (fok b hb).2⟩, ?_⟩
    show b < (t2.heap.push _).objs.size
    rw [Heap.size_push]
    exact Nat.lt_succ_of_lt l
  have s1 : tn 0 (newL t2).heap := T.keep _ _ _ s0 fun b _ o e => old1 b o e
  generalize t2.heap.objs.size = D at *
  generalize upd K2 D (.lst []) = K3 at *
  generalize newL t2 = t3 at *
  have J4 := block_start J3 blk nd fok3
  have pg := ptg t3 K3 fp
  have pt := ptt t3 K3 fp
  have pe := pel t3 K3 fp fun x c => own_far J3
  have s2 : tn 0 (blkS sc t3).heap := T.keep _ _ _ s1 fun b _ o e => pushCells_keeps _ _ _ _ (Heap.get?_push_of_some _ e)
  have loop : codeAny (model X.prog X.w) X.A (.compLoop (.ListComp ex [⟨tg, iter, ifs, 0⟩] sc pos) 0 (.ref it) (.ref D) (compEnvC sc (blkCl X sc t3) t3.heap.objs.size X.env)) (compPost (model X.prog X.w) X.A X.xe none (fun u s' => EP X pins σ Q u s') (.ref D) t3.heap.objs.size) (blkS sc t3) := by
    refine compLoop_any (Bet (Xb X sc t3 K3 fp) (L2.wipe σ (own.map (·.2))) tn fp W) ?_ m0 ⟨0, K3, J4, s2, fun b hb => (fok3 b hb).1.1, w0⟩
    rintro n t5 ⟨i, K5, J5, s5, n5, w5⟩
    rcases turn i n K5 w5 with ⟨stop, done⟩ | ⟨go, Nx, less, step⟩
    · refine thnF (T.done (Xb X sc t3 K3 fp) rfl rfl rfl calm i [] t5 _ K5 (fun _ _ => False) J5 (Bet.stat J5 n5) s5 stop) fun r t6 ⟨hr, J6⟩ => ?_
      subst hr
      have J7 : L2.Inv X pins σ K5 t6 := J3.call' (ch := fp) J6.os J6.base J6.hok J6.bare fun b hb => have z := (fok3 b hb).1.2; ⟨z.2.2.1, z.1, z.2.2.2.1, z.2.2.2.2⟩
      have nl : K5 t3.heap.objs.size = none := J6.free
      obtain ⟨m, ns, _⟩ := J6.loc
      refine ⟨m, ns, fun h7 sb => ?_⟩
      obtain ⟨f0, f1, f2, f3, f4, f5⟩ := J3.fpOk (Nat.le_refl _) nl
      exact ⟨.ref D, K5, J7.turned (t' := t6.toks) (fun b o hb e => (sb.2 b hb).trans e) f0 f1 f3 f4 f5, rfl, done⟩
    · refine thnF (T.item (Xb X sc t3 K3 fp) rfl rfl rfl calm i [] t5 _ K5 (fun _ _ => False) J5 (Bet.stat J5 n5) s5 go) fun r t6 ⟨u, hr, h6⟩ => ?_
      subst hr
      refine thnF h6 fun _ t7 ⟨x, K7, J7, r7, y7, s7, n7⟩ => ?_
      have still := T.obj _ _ s7
      refine thnF (pg.run _ t7 _ K7 x u _ (J7.pinned (Bet.stat J7 n7) still) r7 (step x K7 y7)) fun _ t8 ⟨σ8, K8, J8, wp8, q8⟩ => ?_
      -- a turn's end
      have fin : ∀ {t' : Shared} {K' : Hp}, L2.Inv (Xb X sc t3 K3 fp) ([] ++ pinsAt fp t7.heap) σ8 K' t' → Nx K' → ∃ m, m < n ∧ Bet (Xb X sc t3 K3 fp) (L2.wipe σ (own.map (·.2))) tn fp W m t' := fun {t' K'} J' nx => by
        have at7 : ∀ b ∈ fp, ∀ o, t7.heap.get? b = some o → t'.heap.get? b = some o ∧ K' b = none := fun b hb o e =>
          have z := J'.pin (b, o) (List.mem_append_right _ (List.mem_append_right _ (mem_pinsAt hb e)))
          ⟨z.1, z.2.1⟩
        obtain ⟨m', hm, w'⟩ := less K' nx
        refine ⟨m', hm, i + 1, K', (J'.unpinned (pins := [])).weak (by rw [← wp8, wipe_length]) (fun j v e => ?_), T.keep _ _ _ s7 fun b hb o e => (at7 b hb o e).1, fun b hb => ?_, w'⟩
        · rw [← wp8] at e
          exact (wipe_some e).1
        · obtain ⟨o, e, _⟩ := still b hb
          exact (at7 b hb o e).2
      refine thnF (pt.run _ t8 σ8 K8 _ J8 q8) fun b t9 ⟨K9, J9, qb⟩ => ?_
      cases b with
      | false =>
        rw [if_neg Bool.false_ne_true] at qb ⊢
        exact fin J9 qb
      | true =>
        rw [if_pos rfl] at qb ⊢
        refine thnF (pe.run _ t9 σ8 K9 _ J9 qb) fun z ta ⟨yv, Ka, Ja, ra, acc, aD, az, nx⟩ => ?_
        exact app_ok (X := Xb X sc t3 K3 fp) Ja aD az ra fun tb Jb => fin Jb nx
  exact codeAny_compStart_list loop (T.self X.A 0 _ _ _ s2 loop)
end
section
/-- the table of the code that a def's lambdas are made of -/
def TabOk (G : GS) (mg : Str → Option Value) (base : Heap) (qual : Str) (fd : FuncData) : Prop := ∃ c P, fd.code = .ref c ∧ LamX.TabB base mg c P ∧ (P, qual ++ "<lambda>") ∈ G.tabs ∧ ∀ p ∈ G.tabs, p.1 = P → p.2 = qual ++ "<lambda>"
def links : Nat → List Addr → List (Nat × Addr)
  | _, [] => []
  | n, a :: as => (n, a) :: links (n + 1) as
theorem links_mem : ∀ {as : List Addr} {n k : Nat} {a : Addr}, as[k]? = some a → (n + k, a) ∈ links n as
  | [], n, k, a, e => by simp at e
  | b :: as, n, 0, a, e => by simp at e; subst e; exact List.mem_cons_self
  | b :: as, n, k + 1, a, e => by
    have := links_mem (n := n + 1) (k := k) (as := as) (a := a) (by simpa using e)
    rw [show n + (k + 1) = n + 1 + k from by omega]
    exact List.mem_cons_of_mem _ this
theorem links_at : ∀ {as : List Addr} {r : List Addr} {p : Nat × Addr}, p ∈ links r.length as → (r ++ as)[p.1]? = some p.2
  | [], r, p, h => by cases h
  | a :: as, r, p, h => by
    rcases List.mem_cons.mp h with e | e
    · subst e; simp
    · have := links_at (as := as) (r := r ++ [a]) (p := p) (by simpa using e)
      simpa using this
section
variable {G : GS} {F : Fz} {r : List Addr} {H : Hp} {h : HH} {R : List Addr}
theorem RH.lenq : ∀ {h : HH} {q L : List Addr}, RH G F r H h q L → q.length = h.length
  | _, _, _, .nil => rfl
  | _, _, _, .lst _ _ b => by simp [RH.lenq b]
  | _, _, _, .cel _ _ _ _ b => by simp [RH.lenq b]
  | _, _, _, .cel0 b => by simp [RH.lenq b]
theorem RH.more : ∀ {h : HH} {q L : List Addr} (as : List Addr), RH G F r H h q L → RH G F r H (h ++ List.replicate as.length (.cell none)) (q ++ as) L
  | _, _, _, [], .nil => .nil
  | _, _, _, a :: as, .nil => by simpa [List.replicate_succ] using RH.cel0 (RH.more as .nil)
  | _, _, _, as, .lst x y b => .lst x y (RH.more as b)
  | _, _, _, as, .cel x y z t b => .cel x y z t (RH.more as b)
  | _, _, _, as, .cel0 b => .cel0 (RH.more as b)
end
/-- what is known where a lambda is made -/
structure LcOk (G : GS) (sc : Scope) (N : List Str) (l : Nat) (is : List Nat) (e : Expr) : Prop where
  ex : ∃ params body scope pos fv, e = .Lambda params body scope pos ∧ (∀ env, defaultsOf params env = ([], [])) ∧ (∀ qual, G.lok l ⟨qual, params, body, scope, fv⟩) ∧ (∀ x, (x, NameKind.free) ∈ scope.names ↔ x ∈ fv) ∧ is.length = fv.length ∧
    (∀ (k i : Nat) (x : Str), is[k]? = some i → fv[k]? = some x → N[i]? = some x) ∧ ∀ x ∈ fv, sc.names.lookup x = some .cell ∨ sc.names.lookup x = some .free
theorem lc_pe {X : Cx} {G : GI} {Wx : WX} {ce : List (Option Nat)} {fd : FuncData} {l : Nat} {is : List Nat} {e : Expr} (hce : CeOk X G ce) (ht : TabOk G.toGS X.mg X.base X.env.qual fd) (ec : X.env.code = fd.code) (lc : LcOk G.toGS X.env.scope X.N l is e) : PE X e (TM G Wx fun s h => match celsOf ce is with
      | some cs => .ok (.sh (.clo l cs)) s h
      | none => .fail) := by
  obtain ⟨c, Pt, ec2, tb, inT, one⟩ := ht
  obtain ⟨params, body, scope, pos, fv, rfl, nodef, hlok, hfv, hlen, his, hall⟩ := lc.ex
  exact pe_mlam hce tb (ec.trans ec2) inT one (nodef _) (hlok _) hfv hlen his hall
/-! ### an expression in a block with cells of its own -/
theorem keepCe_get {fr : List Nat} : ∀ {ce : List (Option Nat)} {k i j : Nat}, (keepCe fr k ce)[i]? = some (some j) → (k + i) ∈ fr ∧ ce[i]? = some (some j)
  | [], k, i, j, e => by simp [keepCe] at e
  | c :: ce, k, 0, j, e => by
    unfold keepCe at e
    by_cases hc : fr.contains k = true
    · rw [if_pos hc] at e
      exact ⟨by simpa using hc, by simpa using e⟩
    · rw [if_neg hc] at e
      simp at e
  | c :: ce, k, i + 1, j, e => by
    unfold keepCe at e
    obtain ⟨h1, h2⟩ := keepCe_get (ce := ce) (k := k + 1) (i := i) (j := j) (by simpa using e)
    exact ⟨by rw [show k + (i + 1) = k + 1 + i by omega]; exact h1, by simpa using h2⟩
theorem putCe_get : ∀ {oc : List Nat} {m i j : Nat} {ce : List (Option Nat)}, (putCe oc m ce)[i]? = some (some j) → (∃ k, oc[k]? = some i ∧ j = m + k) ∨ ce[i]? = some (some j)
  | [], m, i, j, ce, e => .inr e
  | o :: oc, m, i, j, ce, e => by
    unfold putCe at e
    rcases putCe_get (oc := oc) e with ⟨k, h1, h2⟩ | h
    · exact .inl ⟨k + 1, by simpa using h1, by omega⟩
    · by_cases ei : o = i
      · subst ei
        by_cases hl : o < ce.length
        · rw [List.getElem?_set_self hl] at h
          exact .inl ⟨0, rfl, by simpa using h.symm⟩
        · rw [List.getElem?_eq_none (by simpa using hl)] at h
          cases h
      · rw [List.getElem?_set_ne ei] at h
        exact .inr h
theorem relS_cell {scope sc : Scope} {x : Str} (uniq : ∀ y ∈ scope.names, scope.names.lookup y.1 = some y.2) (h : scope.names.lookup x = some .cell) : (relS scope sc).names.lookup x = some .cell :=
  lookup_relS_keep (by simp) h
theorem relS_free : ∀ {names : List (Str × NameKind)} {sc : Scope} {x : Str}, names.lookup x = some .free →
    (names.map fun (n, k) => if (k == NameKind.free && sc.kind == .function && sc.names.lookup n == some .cell) then (n, NameKind.cell) else (n, k)).lookup x = some .cell ∨
    (names.map fun (n, k) => if (k == NameKind.free && sc.kind == .function && sc.names.lookup n == some .cell) then (n, NameKind.cell) else (n, k)).lookup x = some .free
  | [], _, _, h => by cases h
  | (n, k) :: r, sc, x, h => by
    cases hx : x == n with
    | true =>
      have h : some k = some NameKind.free := by simpa [List.lookup, hx] using h
      cases h
      by_cases hc : (NameKind.free == NameKind.free && sc.kind == .function && sc.names.lookup n == some .cell) = true
      · left
        rw [List.map_cons]
        dsimp only
        rw [if_pos hc]
        simp [List.lookup, hx]
      · right
        rw [List.map_cons]
        dsimp only
        rw [if_neg hc]
        simp [List.lookup, hx]
    | false =>
      have h : r.lookup x = some NameKind.free := by simpa [List.lookup, hx] using h
      have ih := relS_free (sc := sc) h
      have e : ∀ y : NameKind, List.lookup x (((n, k) :: r).map fun (n, k) => if (k == NameKind.free && sc.kind == .function && sc.names.lookup n == some .cell) then (n, NameKind.cell) else (n, k)) = some y ↔
          List.lookup x (r.map fun (n, k) => if (k == NameKind.free && sc.kind == .function && sc.names.lookup n == some .cell) then (n, NameKind.cell) else (n, k)) = some y := fun y => by
        rw [List.map_cons]
        dsimp only
        by_cases hc : (k == NameKind.free && sc.kind == .function && sc.names.lookup n == some .cell) = true
        · rw [if_pos hc]; simp [List.lookup, hx]
        · rw [if_neg hc]; simp [List.lookup, hx]
      exact ih.imp (e _).mpr (e _).mpr
/-- a captured cell in the block -/
theorem blk_free {X : Cx} {sc : Scope} {t : Shared} {x : Str} {c : Addr} (uniq : ∀ y ∈ sc.names, sc.names.lookup y.1 = some y.2) (h : sc.names.lookup x = some .free) (hc : X.env.cells.lookup x = some c) : (blkCl X sc t).lookup x = some c := by
  have hy : (x, NameKind.free) ∈ sc.names := PySem.mem_of_lookup h
  obtain ⟨c', e'⟩ := L2.mem_lookup (cells_acc (names := sc.names) (n := t.heap.objs.size + 1) (cloFrom_has (cells := X.env.cells) (acc := []) hy))
  rw [show blkCl X sc t = cellsFrom (t.heap.objs.size + 1) sc.names (cloFrom X.env.cells sc.names []) from rfl, e']
  have hm := PySem.mem_of_lookup e'
  have own : (x, c') ∈ cloFrom X.env.cells sc.names [] ∨ (x, NameKind.cell) ∈ sc.names := by
    have go : ∀ (names : List (Str × NameKind)) (n : Nat) (acc : List (Str × Addr)), (x, c') ∈ cellsFrom n names acc → (x, c') ∈ acc ∨ (x, NameKind.cell) ∈ names := by
      intro names
      induction names with
      | nil => intro n acc h; exact .inl h
      | cons y r ih =>
        obtain ⟨y, k⟩ := y
        intro n acc h
        unfold cellsFrom at h
        split at h
        · rename_i hk
          rcases ih _ _ h with h | h
          · rcases List.mem_cons.mp h with e | h
            · injection e with e1 e2
              subst e1
              have : k = .cell := by simpa using hk
              subst this
              exact .inr List.mem_cons_self
            · exact .inl h
          · exact .inr (List.mem_cons_of_mem _ h)
        · exact (ih _ _ h).imp id (List.mem_cons_of_mem _)
    exact go _ _ _ hm
  rcases own with h1 | h1
  · rcases cloFrom_mem h1 with h2 | ⟨_, rfl⟩
    · cases h2
    · rw [hc]; rfl
  · have := uniq _ h1
    rw [h] at this
    cases this
section
variable {X : Cx} {G : GI} {fr oc : List Nat} {ce : List (Option Nat)} {scope : Scope} {own : List (Str × Nat)} {t : Shared} {K : Hp} {fp : List Addr}
theorem ceOk_blk {B : Cx} (eB : B = Xb X scope t K fp) (blk : BlkOk X.N X.env.scope scope own) (hce : CeOk X G ce) (far : Far X) (hfr : ∀ i ∈ fr, ∃ x, X.N[i]? = some x ∧ scope.names.lookup x = some .free) (hoc : ∀ i ∈ oc, ∃ x, X.N[i]? = some x ∧ scope.names.lookup x = some .cell)
    (has : ∀ x, B.env.scope.names.lookup x = some .cell → ∃ c, B.env.cells.lookup x = some c) (m : Nat) : CeOk B ⟨G.toGS, G.own ++ links m (oc.map fun i => (B.env.cells.lookup (X.N.getD i "")).getD 0)⟩ (putCe oc m (keepCe fr 0 ce)) := by
  subst eB
  intro i j e
  rcases putCe_get e with ⟨k, h1, h2⟩ | h
  · obtain ⟨x, n1, n2⟩ := hoc i (List.mem_of_getElem? h1)
    have rel := relS_cell (sc := X.env.scope) blk.uniq n2
    obtain ⟨c, hc⟩ := has x rel
    refine ⟨x, c, n1, .inr (.inl rel), .inl rel, hc, List.mem_append_right _ ?_, .inl ?_⟩
    · rw [h2]
      refine links_mem ?_
      rw [List.getElem?_map, h1]
      show some ((List.lookup (X.N.getD i "") _).getD 0) = some c
      rw [List.getD_eq_getElem?_getD, n1]
      show some ((List.lookup x (Xb X scope t K fp).env.cells).getD 0) = some c
      rw [hc]
      rfl
    · show (scope.names.lookup x == some .cell) = true
      rw [n2]; rfl
  · obtain ⟨h1, h2⟩ := keepCe_get h
    rw [Nat.zero_add] at h1
    obtain ⟨x, n1, n2⟩ := hfr i h1
    obtain ⟨y, c, q1, q2, q3, q4, q5, q6⟩ := hce i j h2
    rw [n1] at q1
    cases q1
    have rel := relS_free (sc := X.env.scope) n2
    refine ⟨x, c, n1, rel.elim (fun z => .inr (.inl z)) (fun z => .inr (.inr z)), rel, blk_free blk.uniq n2 q4, List.mem_append_left _ q5, .inr (q6.elim (fun z => far x c q4 z) id)⟩
theorem pe_own {ex : Expr} {f : List (Option Nat) → SL → HH → Mini.R O} {B : Cx} (eB : B = Xb X scope t K fp) (blk : BlkOk X.N X.env.scope scope own) (hce : CeOk X G ce) (far : Far X) (hfr : ∀ i ∈ fr, ∃ x, X.N[i]? = some x ∧ scope.names.lookup x = some .free) (hoc : ∀ i ∈ oc, ∃ x, X.N[i]? = some x ∧ scope.names.lookup x = some .cell)
    (he : ∀ (o : List (Nat × Addr)) (ce' : List (Option Nat)), CeOk B ⟨G.toGS, o⟩ ce' → PE B ex (TM ⟨G.toGS, o⟩ W0 (f ce'))) : PE B ex (TM G W0 (ownE f fr oc ce)) := by
  refine ⟨fun pins s σ H Q I hq => ?_⟩
  obtain ⟨F, r, s0, h, L, R, a0, out⟩ := hq
  have len : h.length = r.length := by
    obtain ⟨⟨L, h1, _⟩, _⟩ := a0.wi
    exact h1.len
  have CE := ceOk_blk (fr := fr) (oc := oc) eB blk hce far hfr hoc (fun x hx => I.ok.has x (.inl hx)) h.length
  generalize ecs : (oc.map fun i => (B.env.cells.lookup (X.N.getD i "")).getD 0) = cs at CE
  have elen : cs.length = oc.length := by rw [← ecs, List.length_map]
  obtain ⟨Ll, w1, l1, _, back⟩ := a0.wi.fgt cs (G.own ++ links h.length cs) fun p hp => by
    rcases List.mem_append.mp hp with z | z
    · have := a0.wi.lk p z
      rw [List.getElem?_append_left (get_lt this)]
      exact this
    · rw [len] at z
      exact links_at z
  rw [elen] at w1
  refine (he _ _ CE).run pins s σ H Q I ⟨F, r ++ cs, s0, _, L, Ll ++ R, ⟨a0.rs.mono l1 fun _ _ => rfl, w1⟩, ?_⟩
  unfold ownE at out
  generalize f (putCe oc h.length (keepCe fr 0 ce)) s0 (Mini.fgt h ++ List.replicate oc.length (.cell none)) = z at out ⊢
  cases z with
  | fail => exact out.elim
  | exc c ws s' h' => exact out.elim
  | ok o s' h' =>
    dsimp only at out
    split at out
    · rename_i hc
      rw [Bool.and_eq_true, Bool.and_eq_true] at hc
      obtain ⟨c1, c2, c3⟩ := hc
      intro F' r' H' L' v M b ro wi'
      obtain ⟨w2, l2, m, em⟩ := back (M := M ++ L') b.le b.kp (by rw [List.append_assoc]; exact wi') c1
      subst em
      rw [len] at c2 c3
      exact out F' r H' L' v M ⟨l2, b.rs.trim c2, fun x hx => b.kp x (List.mem_append_right _ hx)⟩ (ro.trim c3) (by rw [← List.append_assoc]; exact w2)
    · exact out.elim
theorem pe_mcompX {Wx : WX} {tf : ME → SL → HH → Mini.R Bool} {own : List Nat} {tg : Tg} {it : SL → HH → Mini.R Wk} {ifs : Option ME} {fx : SL → HH → Mini.R O} {eelt etg eit : Expr} {eifs : List Expr} {ow : List (Str × Nat)} {pos : Pos}
    (hc : X.calm = true) (hN : X.N.Nodup) (hi : PI X etg eit (TMi G Wx it)) (ok : BlkOk X.N X.env.scope scope ow) (how : ow.map (·.2) = own) (nd : own.Nodup) (hk : tg ≠ .skip) (hids : ∀ i ∈ tgIds tg, i ∈ own)
    (hg : ∀ (s : Shared) (H : Hp) (fp : List Addr), PG (Xb X scope s H fp) etg (gTg X.K tg)) (ht : ∀ (s : Shared) (H : Hp) (fp : List Addr), PTs (Xb X scope s H fp) eifs (TMt G W0 (testE tf ifs)))
    (he : ∀ (s : Shared) (H : Hp) (fp : List Addr), Far X → PE (Xb X scope s H fp) eelt (TM G W0 fx)) (hs : ∀ x, foldedSetIterable eit X.env x = pure x) : PE X (.ListComp eelt [⟨etg, eit, eifs, 0⟩] scope pos) (TM G Wx fun s h => (it s h).bind fun k s h => if shOk s own && decide (k.ws.length ≤ line) then
      (compL tg own k.gs (testE tf ifs) fx k.ws [] s h).nox.bind fun os s' h => .ok (.lst os) (unwipe s own s') h else .fail) :=
  (pe_lcb hc hN hi ok hg ht he hs).weak (w_mcomp (f := fun _ => fx) (elt := .cst .non) how nd hk hids)
end
/-! ### a loop's body -/
end
end Mini
set_option Elab.async false
set_option linter.all false
set_option maxRecDepth 100000
set_option maxHeartbeats 1000000
/-! Mini: a lambda's body: its cells hidden while it runs. -/
namespace Mini
open PySem L2
section
variable {P : Program} {w : World} {H H1 : Hp} {h h' : Heap} {cs : List (Addr × Obj)} {fs ex : List Addr}
theorem unp_none {b : Addr} (e : H b = none) : unpH H cs b = none := by
  unfold unpH
  split
  · rfl
  · exact e
theorem reun (u : Un fs ex (unpH H cs) H1 h h') (hc : ∀ c o, cs.lookup c = some o → h.get? c = some o ∧ H c = some (cellHO o)) (hf : ∀ c o, cs.lookup c = some o → c ∉ fs ∧ c ∉ ex) :
    Un fs ex H (pubH H1 cs) h h' ∧ ∀ c o, cs.lookup c = some o → h'.get? c = some o ∧ H1 c = none := by
  have k : ∀ c o, cs.lookup c = some o → h'.get? c = some o ∧ H1 c = none := fun c o e =>
    ⟨u.keep c o (hc c o e).1 (unpH_at e) (hf c o e).1 (hf c o e).2, u.free c o (hc c o e).1 (unpH_at e) (hf c o e).2⟩
  have off : ∀ b, H b = none → cs.lookup b = none := fun b e => by
    cases q : cs.lookup b with
    | none => rfl
    | some o => rw [(hc b o q).2] at e; cases e
  refine ⟨⟨fun b o e n hb hx => u.keep b o e (unp_none n) hb hx, fun b o e n hb hx => u.slot b o e (unp_none n) hb hx, fun b o e n hx => ?_, u.there, fun b xs e => ?_, fun b o v e => ?_, fun b ps e => ?_⟩, k⟩
  · rw [pubH_ne (off b n)]
    exact u.free b o e (unp_none n) hx
  · cases q : cs.lookup b with
    | some o => rw [(hc b o q).2] at e; cases e
    | none => rw [pubH_ne q]; exact u.tups b xs (by rw [unpH_ne q]; exact e)
  · cases q : cs.lookup b with
    | some o2 =>
      rw [(hc b o2 q).2] at e
      cases e
      exact pubH_at q
    | none => rw [pubH_ne q]; exact u.frzs b o v (by rw [unpH_ne q]; exact e)
  · cases q : cs.lookup b with
    | some o => rw [(hc b o q).2] at e; cases e
    | none =>
      obtain ⟨more, z⟩ := u.tbls b ps (by rw [unpH_ne q]; exact e)
      exact ⟨more, by rw [pubH_ne q]; exact z⟩
theorem repub_hok (hok : HOk P w H1 h') (k : ∀ c o, cs.lookup c = some o → h'.get? c = some o ∧ H1 c = none) : HOk P w (pubH H1 cs) h' := by
  intro b u hu
  rcases pub_cases hu with ⟨o, e, rfl⟩ | ⟨e, hb⟩
  · have g := (k b o e).1
    exact ⟨g, trivial, ⟨o, g⟩, fun _ _ _ _ => trivial⟩
  · have keep : ∀ d v, H1 d = some v → pubH H1 cs d = some v := fun d v hd => by
      cases e2 : cs.lookup d with
      | none => rw [pubH_ne e2]; exact hd
      | some o => rw [(k d o e2).2] at hd; cases hd
    exact (hok b u hb).stay (fun d v _ q => q) (fun d q => keep d _ q) fun d xs q => keep d _ q
theorem repub_cx {E E' : XK} {u : Value} {s s' : Shared} {outer : List Env} (hc : ∀ c o, cs.lookup c = some o → s.heap.get? c = some o ∧ H c = some (cellHO o)) (hf : ∀ c o, cs.lookup c = some o → c ∉ frs outer) (hd : ∀ c o, cs.lookup c = some o → ∃ v, o.data = .cell v)
    (hE : ∀ cls d H1, (∀ c o, cs.lookup c = some o → H1 c = none) → E' cls d H1 → E cls d (pubH H1 cs)) (x : L2.CX P w outer (unpH H cs) s E' u s') : L2.CX P w outer H s E u s' := by
  obtain ⟨a, B, H1, cls, d, eu, fl, hok, ub, na, os, ag, e⟩ := x
  have k : ∀ c o, cs.lookup c = some o → B.get? c = some o ∧ H1 c = none := fun c o q =>
    ⟨ub.keep c o (hc c o q).1 (unpH_at q) (hf c o q), ub.free c o (hc c o q).1 (unpH_at q)⟩
  have off : ∀ b, H b = none → cs.lookup b = none := fun b e => by
    cases q : cs.lookup b with
    | none => rfl
    | some o => rw [(hc b o q).2] at e; cases e
  have naA : cs.lookup a = none := by
    cases q : cs.lookup a with
    | none => rfl
    | some o =>
      obtain ⟨oe, vs, he, hz, hv⟩ := fl.there
      have here := fl.1 a o (k a o q).1
      rw [he] at here
      cases here
      obtain ⟨v, z⟩ := hd a o q
      rw [hv] at z
      cases z
  refine ⟨a, B, pubH H1 cs, cls, d, eu, fl, repub_hok hok k, ⟨fun b o q n hb => ub.keep b o q (unp_none n) hb, ub.slot, fun b o q n => ?_, ub.there, fun b xs q => ?_, fun b o v q => ?_, fun b ps q => ?_⟩, by rw [pubH_ne naA]; exact na, os, ag, hE cls d H1 (fun c o q => (k c o q).2) e⟩
  · rw [pubH_ne (off b n)]
    exact ub.free b o q (unp_none n)
  · cases z : cs.lookup b with
    | some o => rw [(hc b o z).2] at q; cases q
    | none => rw [pubH_ne z]; exact ub.tups b xs (by rw [unpH_ne z]; exact q)
  · cases z : cs.lookup b with
    | some o2 =>
      rw [(hc b o2 z).2] at q
      cases q
      exact pubH_at z
    | none => rw [pubH_ne z]; exact ub.frzs b o v (by rw [unpH_ne z]; exact q)
  · cases z : cs.lookup b with
    | some o => rw [(hc b o z).2] at q; cases q
    | none =>
      obtain ⟨more, y⟩ := ub.tbls b ps (by rw [unpH_ne z]; exact q)
      exact ⟨more, by rw [pubH_ne z]; exact y⟩
end
end Mini
set_option Elab.async false
set_option linter.all false
set_option maxRecDepth 100000
set_option maxHeartbeats 1000000
/-! Mini: into a lambda's body. -/
namespace Mini
open PySem L2
/-- the names of a lambda: parameters, captured names, those of its comprehensions -/
structure LamK (scope : Scope) (ps fv N : List Str) : Prop where
  kind : scope.kind = .function
  co : scope.isCoroutine = false
  gen : scope.isGenerator = false
  nd : N.Nodup
  pre : ∃ more, N = ps ++ (fv ++ more)
  par : ∀ x ∈ ps, scope.names.lookup x = some .local
  cap : ∀ x ∈ fv, scope.names.lookup x = some .free
  free : ∀ y ∈ scope.names, y.2 = .free → y.1 ∈ fv
  nocell : ∀ y ∈ scope.names, y.2 ≠ .cell
  loc : ∀ y ∈ scope.names, y.2 = .local → y.1 ∈ ps
def lamC (P : Program) (w : World) (K : PySem.W.Frag) (mg : Str → Option Value) (base : Heap) (N : List Str) (qual : Str) (scope : Scope) (f c' : Addr) (cells : List (Str × Addr)) (A : Around) (outer : List Env) (s : Shared) (Hh : Hp) (E : XK) : Cx where
  prog := P
  w := w
  K := K
  mg := mg
  base := base
  A := A.deeper (PySem.W.envX qual scope s.heap.objs.size f (.ref c') cells)
  N := N
  s_0 := s
  H_0 := Hh
  env := PySem.W.envX qual scope s.heap.objs.size f (.ref c') cells
  outer := outer
  stack := PySem.W.envX qual scope s.heap.objs.size f (.ref c') cells :: outer
  ex := []
  fn := fun _ => false
  calm := true
  pn := []
  xe := fun e s' => wpAny (model P w) (A.deeper (PySem.W.envX qual scope s.heap.objs.size f (.ref c') cells)) (leaving (PySem.W.envX qual scope s.heap.objs.size f (.ref c') cells) e) (fun _ s'' => L2.CX P w outer Hh s E e s'') (fun e' s'' => L2.CX P w outer Hh s E e' s'') s'
theorem rev_zip {ps : List Str} {us : List Value} (nd : ps.Nodup) {i : Nat} {x : Str} {u : Value} (h1 : ps[i]? = some x) (h2 : us[i]? = some u) : (ps.zip us).reverse.lookup x = some u := by
  have mem : (x, u) ∈ (ps.zip us).reverse := by
    rw [List.mem_reverse]
    exact List.mem_of_getElem? (i := i) (by rw [List.getElem?_zip_eq_some]; exact ⟨h1, h2⟩)
  have uniq : ∀ v, (x, v) ∈ (ps.zip us).reverse → v = u := fun v hv => by
    rw [List.mem_reverse] at hv
    obtain ⟨k, hk⟩ := List.getElem?_of_mem hv
    rw [List.getElem?_zip_eq_some] at hk
    have e := nodup_ix nd h1 hk.1
    subst e
    rw [h2] at hk
    exact (Option.some.inj hk.2).symm
  obtain ⟨v, hv⟩ := L2.mem_lookup mem
  rw [hv, uniq v (PySem.mem_of_lookup hv)]
section
variable {P : Program} {w : World} {K : PySem.W.Frag} {mg : Str → Option Value} {base : Heap} {H : Hp} {cs : List (Addr × Obj)}
theorem lam_in {ps fv N : List Str} {qual : Str} {scope : Scope} {f c' : Addr} {cells : List (Str × Addr)} {A : Around} {outer : List Env} {s : Shared} {E : XK} {h₁ : Heap} {tk : Nat} {us : List Value} {vs zs : List V} (S : LamK scope ps fv N) (e0 : Env0 P w K mg base A outer s H) (hd : A.handled = none)
    (hc : ∀ c o, cs.lookup c = some o → s.heap.get? c = some o ∧ H c = some (cellHO o)) (known : ∀ x c, cells.lookup x = some c → x ∈ fv ∧ ∃ o, cs.lookup c = some o ∧ ∃ v, o.data = .cell v) (all : ∀ x ∈ fv, ∃ c, cells.lookup x = some c) (inj : ∀ (x y : Str) (c : Addr), cells.lookup x = some c → cells.lookup y = some c → x = y)
    (vals : ∀ (k : Nat) (x : Str) (v : V), fv[k]? = some x → zs[k]? = some v → ∃ c o u, cells.lookup x = some c ∧ cs.lookup c = some o ∧ o.data = .cell (some u) ∧ RelV v u) (lz : zs.length = fv.length) (lv : vs.length = ps.length) (rv : Vals vs us)
    (hns : h₁.Ns s.heap.objs.size fun y => (ps.zip us).reverse.lookup y) (kp : ∀ b o, s.heap.get? b = some o → h₁.get? b = some o) :
    L2.Inv (lamC P w K mg base N qual scope f c' cells A outer s (unpH H cs) E) [] (vs.map some ++ (zs.map some ++ List.replicate (N.length - ps.length - fv.length) none)) (unpH H cs) { s with heap := h₁, toks := tk } := by
  obtain ⟨more, eN⟩ := S.pre
  have ndp : ps.Nodup := by
    have := S.nd
    rw [eN] at this
    exact (List.nodup_append.mp this).1
  have noA : ∀ b : Addr, b ∉ ([] : List Addr) := fun b z => by cases z
  have cellK : ∀ {c o}, cs.lookup c = some o → h₁.get? c = some o := fun {c o} e => kp c o (hc c o e).1
  refine ⟨⟨e0.mod, S.kind, rfl, rfl, Nat.le_refl _, inj, fun y hy => ?_, fun y c z _ => ?_, fun _ => hd, Around.frames_deeper e0.frames, .inr ⟨rfl, rfl⟩, fun b z => absurd z (noA b), fun b o e => ⟨(e0.bs b o e).1, unp_none (e0.bs b o e).2⟩, e0.bsz, fun b _ _ => noA b,
      fun b z => absurd z (noA b), e0.funs, fun b hb => unp_none (e0.frf b hb)⟩,
    rfl, e0.bare, Un.kept kp, ⟨_, hns, fun i x v e1 e2 e3 => ?_⟩, fun y c e => ?_, unp_none (e0.hok.fresh (Nat.le_refl _)), fun y c e => ?_, fun q hq => absurd (show q ∈ ([] : List (Addr × Obj)) from hq) (by simp), (unp_hok e0.hok fun c o e => (hc c o e).2).kept kp, ?_⟩
  · have hy : scope.names.lookup y = some .cell ∨ scope.names.lookup y = some .free := hy
    rcases hy with hy | hy
    · exact absurd rfl (S.nocell _ (PySem.mem_of_lookup hy))
    · exact all y (S.free _ (PySem.mem_of_lookup hy) rfl)
  · have z : false = true := z
    cases z
  · have e1 : N[i]? = some x := e1
    rw [eN] at e1
    by_cases hi : i < ps.length
    · rw [List.getElem?_append_left hi] at e1
      rw [List.getElem?_append_left (by simpa [lv] using hi), List.getElem?_map] at e2
      cases q : vs[i]? with
      | none => rw [q] at e2; cases e2
      | some v' =>
        rw [q] at e2
        cases e2
        obtain ⟨u, hu, ru⟩ := rv.get q
        exact ⟨u, ru, .inl ⟨S.par x (List.mem_of_getElem? e1), rev_zip ndp e1 hu⟩⟩
    · rw [List.getElem?_append_right (by omega)] at e1
      rw [List.getElem?_append_right (by simp [lv]; omega)] at e2
      rw [List.length_map, lv] at e2
      by_cases hj : i - ps.length < fv.length
      · rw [List.getElem?_append_left hj] at e1
        rw [List.getElem?_append_left (by simpa [lz] using hj), List.getElem?_map] at e2
        cases q : zs[i - ps.length]? with
        | none => rw [q] at e2; cases e2
        | some v' =>
          rw [q] at e2
          cases e2
          obtain ⟨c, o, u, q1, q2, q3, q4⟩ := vals _ x _ e1 q
          exact ⟨u, q4, .inr ⟨.inr (S.cap x (List.mem_of_getElem? e1)), c, q1, o, cellK q2, q3⟩⟩
      · rw [List.getElem?_append_right (by simp [lz]; omega), List.getElem?_replicate] at e2
        split at e2 <;> cases e2
  · obtain ⟨_, o, q1, v, q2⟩ := known y c e
    exact ⟨v, o, cellK q1, q2⟩
  · obtain ⟨_, o, q1, _⟩ := known y c e
    exact unpH_at q1
  · show _ = N.length
    have := congrArg List.length eN
    simp only [List.length_append] at this
    simp only [List.length_append, List.length_map, List.length_replicate, lv, lz]
    omega
end
end Mini
set_option Elab.async false
set_option linter.all false
set_option maxRecDepth 100000
set_option maxHeartbeats 1000000
/-! Mini: the cells of a lambda taken. -/
namespace Mini
open PySem L2
section
variable {G : GI} {F F1 : Fz} {r r1 : List Addr} {H H1 : Hp} {R L L1 : List Addr} {h h1 : HH}
theorem WI.cellAt (wi : WI G F r H h R) {j : Nat} {c : Addr} {w : W} (ej : h[j]? = some (.cell (some w))) (er : r[j]? = some c) : ∃ o u v, H c = some (cellHO o) ∧ o.data = .cell (some u) ∧ RelV v u ∧ RW G F r H w v := by
  obtain ⟨⟨L, h1, _⟩, _⟩ := wi
  have : ∀ {h : HH} {q L : List Addr} {j : Nat}, RH G F r H h q L → h[j]? = some (.cell (some w)) → q[j]? = some c → ∃ o u v, H c = some (cellHO o) ∧ o.data = .cell (some u) ∧ RelV v u ∧ RW G F r H w v := by
    intro h q L j hh
    induction hh generalizing j with
    | nil => intro e; simp at e
    | lst x y b ih =>
      intro e e2
      cases j with
      | zero => simp at e
      | succ j => exact ih (by simpa using e) (by simpa using e2)
    | cel x y z t b ih =>
      intro e e2
      cases j with
      | zero =>
        simp at e e2
        subst e e2
        exact ⟨_, _, _, x, y, z, t⟩
      | succ j => exact ih (by simpa using e) (by simpa using e2)
    | cel0 b ih =>
      intro e e2
      cases j with
      | zero => simp at e
      | succ j => exact ih (by simpa using e) (by simpa using e2)
  exact this h1 ej er
theorem take_ok : ∀ {js : List Nat} {H : Hp} {h h0 : HH} {ws : List W} {R : List Addr}, WI G F r H h R → (∀ j ∈ js, ∃ c, r[j]? = some c) → takeC js h = some (ws, h0) →
    ∃ cc : List (Addr × Obj), WI G F r (unpH H cc) h0 R ∧ Le F r H F r (unpH H cc) ∧ (∀ b ∈ R, unpH H cc b = H b) ∧ ws.length = js.length ∧
      (∀ (k j : Nat) (w : W), js[k]? = some j → ws[k]? = some w → ∃ c o u v, r[j]? = some c ∧ cc.lookup c = some o ∧ o.data = .cell (some u) ∧ RelV v u ∧ RW G F r (unpH H cc) w v) ∧
      ∀ c o, cc.lookup c = some o → H c = some (cellHO o) ∧ (∃ j ∈ js, r[j]? = some c) ∧ ∃ u, o.data = .cell (some u)
  | [], H, h, h0, ws, R, wi, _, e => by
    cases e
    have z : unpH H [] = H := funext fun b => unpH_ne rfl
    exact ⟨[], by rw [z]; exact wi, by rw [z]; exact Le.refl _ _ _, fun b _ => by rw [z], rfl, fun k j w e1 => by simp at e1, fun c o q => by cases q⟩
  | j :: js, H, h, h0, ws, R, wi, hr, e => by
    unfold takeC at e
    split at e
    · rename_i w ej
      split at e
      · rename_i ws0 h2 e0
        cases e
        obtain ⟨c, er⟩ := hr j List.mem_cons_self
        obtain ⟨o, u, v, hc, hd, rv, q⟩ := wi.cellAt ej er
        obtain ⟨l1, w1, cR, _⟩ := wi.unp1 hc (fun fd z => by rw [hd] at z; cases z) ej er
        obtain ⟨cc, w2, l2, k2, hl, hg, hk⟩ := take_ok (js := js) w1 (fun i hi => hr i (List.mem_cons_of_mem _ hi)) e0
        have nc : cc.lookup c = none := by
          cases qq : cc.lookup c with
          | none => rfl
          | some o2 =>
            have := (hk c o2 qq).1
            rw [show hideH H c c = none from if_pos rfl] at this
            cases this
        refine ⟨(c, o) :: cc, by rw [unp_cons]; exact w2, by rw [unp_cons]; exact l1.trans l2, fun b hb => ?_, by simp [hl], fun k i w' e1 e2 => ?_, fun c' o' q' => ?_⟩
        · rw [unp_cons, k2 b hb]
          exact hide_ne fun ee => cR (ee ▸ hb)
        · cases k with
          | zero =>
            simp at e1 e2
            subst e1 e2
            exact ⟨c, o, u, v, er, lookup_cons_eq, hd, rv, by rw [unp_cons]; exact (q.mono l1).mono l2⟩
          | succ k =>
            obtain ⟨c2, o2, u2, v2, f1, f2, f3, f4, f5⟩ := hg k i w' (by simpa using e1) (by simpa using e2)
            have ne : c2 ≠ c := fun ee => by rw [ee, nc] at f2; cases f2
            exact ⟨c2, o2, u2, v2, f1, by rw [lookup_cons_ne ne]; exact f2, f3, f4, by rw [unp_cons]; exact f5⟩
        · by_cases ee : c' = c
          · subst ee
            rw [lookup_cons_eq] at q'
            cases q'
            exact ⟨hc, ⟨j, List.mem_cons_self, er⟩, u, hd⟩
          · rw [lookup_cons_ne ee] at q'
            obtain ⟨f1, ⟨i, f2, f3⟩, f4⟩ := hk c' o' q'
            rw [hide_ne ee] at f1
            exact ⟨f1, ⟨i, List.mem_cons_of_mem _ f2, f3⟩, f4⟩
      · cases e
    · cases e
end
end Mini
set_option Elab.async false
set_option linter.all false
set_option maxRecDepth 100000
set_option maxHeartbeats 1000000
/-! Mini: calls of defs. -/
namespace Mini
open PySem L2
/-- what a mark stands for -/
def SealOk (G : GS) (cf : CF) : Prop := ∀ t os h, cf (.tok t) os h = .fail ∨ ∃ o i, os = [o] ∧ cf (.tok t) os h = .ok (.sh (.opq i)) [] h ∧ o.toW = G.tok i ∧ partsN o.toW = some (i % 64) ∧ belowW 0 o.toW = true
/-- what a callee does -/
def SpF (G : GS) (cf : CF) (c : Callee) : Sp := fun vs H Q E => ∃ F r h os L R, ROs G F r H os vs L ∧ WI ⟨G, []⟩ F r H h (L ++ R) ∧
  Out (cf c os h) (fun o _ h' => ∀ F' r' H' v M, Le F r H F' r' H' → (∀ b ∈ R, H' b = H b) → RO G F' r' H' o v M → WI ⟨G, []⟩ F' r' H' h' (M ++ R) → Q v H')
    (fun c ws _ h' => ∀ F' r' H' cls dx, Le F r H F' r' H' → (∀ b ∈ R, H' b = H b) → WI ⟨G, []⟩ F' r' H' h' R → XR ⟨G, []⟩ F' r' H' c ws cls dx → E cls dx H')
/-- what a def does that makes all lists of a thing longer -/
def SpS (G : GS) (cf : CF) (j : Nat) : Sp := fun vs H Q E => ∃ F r h o o' v L R s' h', vs = [v] ∧ RO G F r H o v L ∧ WI ⟨G, []⟩ F r H h (L ++ R) ∧ cf (.spl j) [o] h = .ok o' s' h' ∧
  ∀ H', Le F r H F r H' → (∀ b ∈ R, H' b = H b) → RO G F r H' o' v L → WI ⟨G, []⟩ F r H' h (L ++ R) → Q .non H'
section
variable {G : GI} {Wx : WX} {X : Cx} {f : ME → SL → HH → R O} {tf : ME → SL → HH → R Bool} {F F1 : Fz} {r r1 : List Addr} {H H1 : Hp} {R L L1 : List Addr} {σ : L2.St} {s s1 : SL} {h h1 : HH}
theorem XR.mono (l : Le F r H F1 r1 H1) {c : Nat} {ws : List W} {cls : Value} {d : Option Addr} {G' : GI} (hx : ∀ dx fs, d = some dx → H dx = some (.xd fs) → H1 dx = some (.xd fs)) (e : G'.toGS = G.toGS) (x : XR G F r H c ws cls d) : XR G' F1 r1 H1 c ws cls d := by
  unfold XR at x ⊢
  rw [e]
  refine ⟨x.1, x.2.1, ?_⟩
  have x2 := x.2.2
  split at x2
  · obtain ⟨dx, f, v, e1, e2, e3, e4⟩ := x2
    exact ⟨dx, f, v, e1, e2, hx _ _ e1 e3, e4.mono l⟩
  · trivial
/-- what a callee asks for, where it is called -/
def SpAt (G : GS) (cf : CF) (c : Callee) (F : Fz) (r : List Addr) (vs : List V) (H : Hp) (Q : VK) (E : XK) : Prop := ∃ h os L R, ROs G F r H os vs L ∧ WI ⟨G, []⟩ F r H h (L ++ R) ∧
  Out (cf c os h) (fun o _ h' => ∀ F' r' H' v M, Le F r H F' r' H' → (∀ b ∈ R, H' b = H b) → RO G F' r' H' o v M → WI ⟨G, []⟩ F' r' H' h' (M ++ R) → Q v H')
    (fun c ws _ h' => ∀ F' r' H' cls dx, Le F r H F' r' H' → (∀ b ∈ R, H' b = H b) → WI ⟨G, []⟩ F' r' H' h' R → XR ⟨G, []⟩ F' r' H' c ws cls dx → E cls dx H')
/-- a call, the own cells known through it -/
theorem sp_pubL {pins : List (Addr × Obj)} {sh : Shared} {ce : List (Option Nat)} {cf : CF} {c : Callee} {os : List O} {vs : List V} {M : List Addr} {Q : VK} {F0 : Fz} {r0 : List Addr} {H0 : Hp} (I : L2.Inv X pins σ H sh) (nd : X.N.Nodup) (hce : CeOk X G ce)
    (b1 : Bh G F0 r0 H0 R σ F r H L s) (q : ROs G F r H os vs M) (wi : WI G F r H h (M ++ (L ++ R)))
    (out : Out (callC cf ce c os s h) (PO G F0 r0 H0 R σ Q) (EK G Wx F0 r0 H0 R σ)) :
    ∃ cs, OwnC X H sh cs ∧ ∃ F', Le F r H F' r (pubH H cs) ∧ SpAt G.toGS cf c F' r vs (pubH H cs) (fun v H1 => (∀ c o, cs.lookup c = some o → H1 c = some (cellHO o)) → Q v (unpH H1 cs)) (fun cls d H1 => (∀ c o, cs.lookup c = some o → H1 c = some (cellHO o)) → Wx cls d (unpH H1 cs)) := by
  unfold callC at out
  split at out
  · rename_i js s2 h2 ep
    have wi' : WI G F r H h (L ++ (M ++ R)) := wi.perm (List.perm_append_comm_assoc ..)
    obtain ⟨cs, F', L', rs2, w2, l2, k2, jc, fc⟩ := pub_ok nd (fun x c => own_far I) I.ok I.loc (i := 0) (fun k j e => by rw [Nat.zero_add]; exact hce k j e) (fun k x c e1 e2 => I.freeC x c e2) b1.rs wi' ep
    refine ⟨cs, ⟨fun c o e => fc c o e⟩, F', l2, h2, os, M, L' ++ R, q.mono l2 fun b hb => k2 b (wi.there (List.mem_append_left _ hb)), (w2.perm (List.perm_append_comm_assoc ..)).to0, ?_⟩
    have kR : ∀ b ∈ R, pubH H cs b = H b := fun b hb => k2 b (wi.there (List.mem_append_right _ (List.mem_append_right _ hb)))
    have own1 : ∀ {r1 : List Addr}, (∃ m, r1 = r ++ m) → ∀ p ∈ G.own, r1[p.1]? = some p.2 := fun {r1} ⟨m, e⟩ p hp => by
      have := wi.lk p hp
      rw [e, List.getElem?_append_left (List.getElem?_eq_some_iff.mp this).1]
      exact this
    cases ec : cf c os h2 with
    | fail => rw [ec] at out; exact out.elim
    | ok o s' h' =>
      rw [ec] at out
      dsimp only at out
      intro F1 r1 H1 v M1 l3 k3 ro w3 hk
      split at out
      · rename_i h3 eu
        obtain ⟨w4, l4, k4⟩ := unp_ok jc (WI.of0 (G := G) w3 (own1 l3.p)) hk eu
        refine out F1 r1 (unpH H1 cs) L' v M1 ⟨((b1.le.trans l2).trans l3).trans l4, ?_, fun b hb => ?_⟩ (ro.mono l4 fun b hb => k4 b (List.mem_append_left _ hb)) w4
        · exact (rs2.mono l3 fun b hb => k3 b (List.mem_append_left _ hb)).mono l4 fun b hb => k4 b (List.mem_append_right _ (List.mem_append_left _ hb))
        · rw [k4 b (List.mem_append_right _ (List.mem_append_right _ hb)), k3 b (List.mem_append_right _ hb), kR b hb]
          exact b1.kp b hb
      · exact out.elim
    | exc c2 ws s' h' =>
      rw [ec] at out
      dsimp only at out
      intro F1 r1 H1 cls dx l3 k3 w3 x hk
      split at out
      · rename_i h3 eu
        obtain ⟨w4, l4, k4⟩ := unp_ok jc (WI.of0 (G := G) w3 (own1 l3.p)) hk eu
        refine out F1 r1 (unpH H1 cs) L' cls dx ⟨((b1.le.trans l2).trans l3).trans l4, ?_, fun b hb => ?_⟩ w4 (XR.mono (G := ⟨G.toGS, []⟩) l4 (fun d fs ed e => ?_) rfl x)
        · exact (rs2.mono l3 fun b hb => k3 b (List.mem_append_left _ hb)).mono l4 fun b hb => k4 b (List.mem_append_left _ hb)
        · rw [k4 b (List.mem_append_right _ hb), k3 b (List.mem_append_right _ hb), kR b hb]
          exact b1.kp b hb
        · cases qq : cs.lookup d with
          | none => rw [unpH_ne qq]; exact e
          | some o2 => rw [hk d o2 qq] at e; cases e
      · exact out.elim
  · exact out.elim
theorem sp_pub {pins : List (Addr × Obj)} {sh : Shared} {ce : List (Option Nat)} {cf : CF} {c : Callee} {os : List O} {vs : List V} {M : List Addr} {Q : VK} {F0 : Fz} {r0 : List Addr} {H0 : Hp} (I : L2.Inv X pins σ H sh) (nd : X.N.Nodup) (hce : CeOk X G ce)
    (b1 : Bh G F0 r0 H0 R σ F r H L s) (q : ROs G F r H os vs M) (wi : WI G F r H h (M ++ (L ++ R)))
    (out : Out (callC cf ce c os s h) (PO G F0 r0 H0 R σ Q) (EK G Wx F0 r0 H0 R σ)) :
    ∃ cs, OwnC X H sh cs ∧ SpF G.toGS cf c vs (pubH H cs) (fun v H1 => (∀ c o, cs.lookup c = some o → H1 c = some (cellHO o)) → Q v (unpH H1 cs)) (fun cls d H1 => (∀ c o, cs.lookup c = some o → H1 c = some (cellHO o)) → Wx cls d (unpH H1 cs)) := by
  obtain ⟨cs, oc, F', _, h2, os', L2, R2, z⟩ := sp_pubL I nd hce b1 q wi out
  exact ⟨cs, oc, F', r, h2, os', L2, R2, z⟩
variable {CX : CXT} {k j : Nat} {ps : List Str} {x : Str} {p pos : Pos} {cf : CF}
/-- behind what is called -/
theorem run_tail {pins : List (Addr × Obj)} {sh : Shared} {us ws : List Value} {f : Addr} {ks : List Str} {cs : List (Addr × Obj)} {Q : VK} (tk : Takes X (fun c d _ H => Wx c d H)) (I : L2.Inv X pins σ H sh) (oc : OwnC X H sh cs)
    (run : codeAny (model X.prog X.w) X.A (.call (.ref f) ⟨us, ks.zip ws⟩) (CR (L2.CX X.prog X.w) X.stack X.prog X.w (pubH H cs) sh (fun v H1 => (∀ c o, cs.lookup c = some o → H1 c = some (cellHO o)) → Q v (unpH H1 cs)) (fun cls d H1 => (∀ c o, cs.lookup c = some o → H1 c = some (cellHO o)) → Wx cls d (unpH H1 cs))) sh) :
    wpAny (model X.prog X.w) X.A (PySem.call (.ref f) us (ks.zip ws)) (EP X pins σ Q) X.xe sh := by
  refine wpAny_call (codeAny_mono run fun rs s' hq' => ?_)
  cases rs with
  | error e =>
    have c2 := unp_cx (X := X) (fun c o e => ⟨(oc.at_ c o e).1, (oc.at_ c o e).2.1⟩) (fun c o e => (oc.at_ c o e).2.2.2) hq'
    exact passes_call tk (E := fun cls d H2 => Wx cls d H2) (fun _ _ _ _ z => z) pins σ H sh e s' I (by
      obtain ⟨a, B, H', cls, d, e1, e2, e3, e4, e5, e6, e7, H3, e8, e9, e10⟩ := c2
      exact ⟨a, B, H', cls, d, e1, e2, e3, e4, e5, e6, e7, by rw [e8]; exact e9 e10⟩)
  | ok fl =>
    cases fl with
    | ret u =>
      obtain ⟨v, H3, J, rv, q3, k3⟩ := unp_after I oc hq'
      exact ⟨v, _, J, rv, q3 k3⟩
    | next => exact hq'.elim
    | brk => exact hq'.elim
    | cont => exact hq'.elim
/-- a def is run -/
theorem run_pub {pins : List (Addr × Obj)} {sh : Shared} {us ws : List Value} {vs zs : List V} {f : Addr} {fd : FuncData} {ks : List Str} {g : List Value → List Value → List Value} {gV : List V → List V → List V} {sp : Sp} {cs : List (Addr × Obj)} {Q : VK} (Fn : FnOk X.prog X.w X.K X.mg X.base (L2.CX X.prog X.w) k f fd ps sp) (hr : Room k X.A)
    (hb : KBinds X.K fd ps ks g gV) (tk : Takes X (fun c d _ H => Wx c d H)) (I : L2.Inv X pins σ H sh) (oc : OwnC X H sh cs) (r : Vals vs us) (rz : Vals zs ws)
    (hq : sp (gV vs zs) (pubH H cs) (fun v H1 => (∀ c o, cs.lookup c = some o → H1 c = some (cellHO o)) → Q v (unpH H1 cs)) (fun cls d H1 => (∀ c o, cs.lookup c = some o → H1 c = some (cellHO o)) → Wx cls d (unpH H1 cs))) :
    wpAny (model X.prog X.w) X.A (PySem.call (.ref f) us (ks.zip ws)) (EP X pins σ Q) X.xe sh := by
  have r2 := hb.rel r rz
  have hl : (g us ws).length = ps.length := by rw [← r2.length]; exact Fn.len _ _ _ _ hq
  exact run_tail tk I oc (Fn.run X.A X.stack sh (pubH H cs) ⟨us, ks.zip ws⟩ (g us ws) (gV vs zs) _ _ hr (pub_env0 I oc) (hb.to sh us ws I.kIn hl) r2 hq)
/-- keywords only: pk tells which stands for which parameter -/
def KwOk (K : PySem.W.Frag) (fd : FuncData) (ps ks : List Str) (pk : List Nat) : Prop := ∀ (s : Shared) (ws : List Value), K.In s.heap → (pk.filterMap fun i => ws[i]?).length = ps.length → BindsTo s fd ⟨[], ks.zip ws⟩ (ps.zip (pk.filterMap fun i => ws[i]?))
theorem KBinds.ofB {K : PySem.W.Frag} {fd : FuncData} {ps : List Str} (b : Binds K fd ps []) : KBinds K fd ps [] (fun us _ => us) (fun vs _ => vs) :=
  ⟨fun s us ws hK hl => by
    have := b s us hK (by rw [List.append_nil]; exact hl)
    rw [List.append_nil] at this
    exact this, fun r _ => r⟩
theorem pe_mcall {es : List Expr} {ms : List ME} {ce : List (Option Nat)} (nd : X.N.Nodup) (hce : CeOk X G ce) (Fn : FnOk X.prog X.w X.K X.mg X.base (L2.CX X.prog X.w) k (G.fa j) (G.fd j) ps (SpF G.toGS cf (.fn j))) (hr : Room k X.A) (hg : Gl X x) (hm : X.mg x = some (.ref (G.fa j))) (hk : PySem.W.keepIn X.K (.ref (G.fa j)) = true) (hb : Binds X.K (G.fd j) ps [])
    (tk : Takes X (fun c d _ H => Wx c d H)) (hdb : (x == ("__debug__" : Str)) = false) (hp : ∀ e ∈ es, plainE e = true) (hl : ms.length = es.length) (ha : PA X es (TMs G Wx (evL f ms))) : PE X (.Call (.Name x p) es [] pos) (TM G Wx fun s h => (evL f ms s h).bind fun os s h => match pickO [] os with
      | some os => callC cf ce (.fn j) os s h
      | none => .fail) := by
  refine ⟨fun pins s σ H Q I hq => ?_⟩
  refine wpAny_Call_Name_kw (ld_glob I hg hm ?_ hdb)
  have hq2 : TMs G Wx (evL f ms) σ H fun vs H1 => ∀ sh, L2.Inv X pins σ H1 sh → ∃ cs, OwnC X H1 sh cs ∧ SpF G.toGS cf (.fn j) vs (pubH H1 cs) (fun v H2 => (∀ c o, cs.lookup c = some o → H2 c = some (cellHO o)) → Q v (unpH H2 cs)) (fun cls d H2 => (∀ c o, cs.lookup c = some o → H2 c = some (cellHO o)) → Wx cls d (unpH H2 cs)) := by
    obtain ⟨F, r, s0, h, L, R, a0, out⟩ := hq
    refine ⟨F, r, s0, h, L, R, a0, (Out.cases out).mono (fun os s1 h1 o1 => ?_) (fun _ _ _ _ z => z)⟩
    intro F1 r1 H1 L1 vs M b1 ros wi1 sh I1
    exact sp_pub I1 nd hce b1 ros wi1 o1
  cases es with
  | nil =>
    cases ms with
    | nil =>
      obtain ⟨F, r, s0, h, L, R, a0, out⟩ := hq2
      obtain ⟨cs, oc, sp⟩ := out F r H L [] [] a0.here .nil a0.wi s I
      exact PySem.W.callWith_K0 I.kIn hk (run_pub (us := []) (ws := []) (vs := []) (zs := []) (ks := []) Fn hr (KBinds.ofB hb) tk I oc .nil .nil sp)
    | cons _ _ => cases hl
  | cons e es =>
    refine PySem.W.callWith_K (h₀ := X.base) I.ok.mod.kin hk (thn (ha.run pos pins s σ H _ I hq2) fun us s1 ⟨vs, H1, I1, r, q⟩ => ⟨I1.kIn, ?_⟩) (plain_star (hp e List.mem_cons_self)) (plain_all fun y hy => hp y (List.mem_cons_of_mem _ hy))
    obtain ⟨cs, oc, sp⟩ := q s1 I1
    exact run_pub (ws := []) (zs := []) (ks := []) Fn hr (KBinds.ofB hb) tk I1 oc r .nil sp
theorem kw_all {env : Env} {pos : Pos} : ∀ {kws : List Keyword}, (∀ k ∈ kws, k.arg.isSome = true) → (backToKw pos (keywordEach kws env)).all (·.1.isSome) = true ∧ (backToKw pos (keywordEach kws env)).any (·.1.isNone) = false ∧ (backToKw pos (keywordEach kws env)).filterMap (·.1) = kws.filterMap (·.arg)
  | [], _ => ⟨rfl, rfl, rfl⟩
  | ⟨none, v, p⟩ :: kws, h => by cases h _ List.mem_cons_self
  | ⟨some n, v, p⟩ :: kws, h => by
    obtain ⟨h1, h2, h3⟩ := kw_all (env := env) (pos := pos) (kws := kws) fun k hk => h k (List.mem_cons_of_mem _ hk)
    refine ⟨?_, ?_, ?_⟩
    · show (true && (backToKw pos (keywordEach kws env)).all (·.1.isSome)) = true
      rw [h1]; rfl
    · show (false || (backToKw pos (keywordEach kws env)).any (·.1.isNone)) = false
      rw [h2]; rfl
    · show n :: (backToKw pos (keywordEach kws env)).filterMap (·.1) = n :: kws.filterMap (·.arg)
      rw [h3]
theorem pk_m : ∀ {ms : List ME} {kws : List Keyword}, F2 (fun m k => PE X k.value (TM G Wx (f m))) ms kws → PK X kws (TMs G Wx (evL f ms))
  | _, _, .nil => ⟨fun pos pins s σ H Q I ⟨F, r, s0, h, L, R, a, out⟩ => pk_nil.run pos pins s σ H Q I (out F r H L [] [] a.here .nil a.wi)⟩
  | m :: ms, ⟨n, v, kp⟩ :: kws, .cons a b => by
    have ih := pk_m b
    refine ⟨fun pos pins s σ H Q I hq => (pk_cons a ih).run pos pins s σ H Q I ?_⟩
    obtain ⟨F, r, s, h, L, R, a0, out⟩ := hq
    refine ⟨F, r, s, h, L, R, a0, (Out.cases (show Out ((f m s h).bind fun o s h => (evL f ms s h).bind fun os s h => .ok (o :: os) s h) _ _ from out)).mono (fun o s1 h1 o1 => ?_) (fun _ _ _ _ z => z)⟩
    intro F1 r1 H1 L1 v M b1 ro wi1
    refine ⟨F1, r1, s1, h1, L1, M ++ R, ⟨b1.rs, wi1.perm ?_⟩, (Out.cases o1).mono (fun os s2 h2 o2 => ?_) (fun _ _ _ _ z => EK.tr b1 z)⟩
    · rw [← List.append_assoc, ← List.append_assoc]
      exact List.perm_append_comm.append_right R
    intro F2' r2 H2 L2 vs' M2 b2 ros wi2
    refine o2 F2' r2 H2 L2 (v :: vs') (M ++ M2) (b1.trans b2) (.cons (ro.mono b2.le fun x hx => b2.kp x (List.mem_append_left _ hx)) ros) (wi2.perm ?_)
    have p1 : (M2 ++ (L2 ++ (M ++ R))).Perm (M2 ++ (M ++ (L2 ++ R))) := List.Perm.append_left M2 (List.perm_append_comm_assoc ..)
    refine p1.trans ?_
    have p2 : (M2 ++ (M ++ (L2 ++ R))).Perm (M ++ (M2 ++ (L2 ++ R))) := List.perm_append_comm_assoc ..
    refine p2.trans ?_
    rw [List.append_assoc]
theorem pickL_rws {ws : List W} {vs : List V} (q : RWs G F r H ws vs) : ∀ {pk : List Nat} {ws' : List W}, pickL ws pk = some ws' → RWs G F r H ws' (pk.filterMap fun i => vs[i]?)
  | [], _, e => by cases e; exact .nil
  | i :: is, ws', e => by
    unfold pickL at e
    split at e
    · rename_i w rr e1 e2
      cases e
      obtain ⟨v, h1, h2⟩ := q.get e1
      rw [List.filterMap_cons, h1]
      exact .cons h2 (pickL_rws q e2)
    · cases e
theorem vals_pick {vs : List V} {us : List Value} (q : Vals vs us) : ∀ pk : List Nat, Vals (pk.filterMap fun i => vs[i]?) (pk.filterMap fun i => us[i]?)
  | [] => .nil
  | i :: is => by
    rw [List.filterMap_cons, List.filterMap_cons]
    cases e : vs[i]? with
    | none =>
      have : us[i]? = none := by
        rw [List.getElem?_eq_none_iff] at e ⊢
        rw [← q.length]; exact e
      rw [this]
      exact vals_pick q is
    | some v =>
      obtain ⟨u, hu, ru⟩ := q.get e
      rw [hu]
      exact .cons ru (vals_pick q is)
/-- f(k = v, ..) -/
theorem pe_mcallK {kws : List Keyword} {ms : List ME} {ks : List Str} {pk : List Nat} {ce : List (Option Nat)} (nd : X.N.Nodup) (hce : CeOk X G ce) (Fn : FnOk X.prog X.w X.K X.mg X.base (L2.CX X.prog X.w) k (G.fa j) (G.fd j) ps (SpF G.toGS cf (.fn j))) (hr : Room k X.A) (hg : Gl X x) (hm : X.mg x = some (.ref (G.fa j))) (hk : PySem.W.keepIn X.K (.ref (G.fa j)) = true)
    (hb : KwOk X.K (G.fd j) ps ks pk) (hpk : pk ≠ [])
    (tk : Takes X (fun c d _ H => Wx c d H)) (hdb : (x == ("__debug__" : Str)) = false) (hn : ∀ k ∈ kws, k.arg.isSome = true) (hks : kws.filterMap (·.arg) = ks) (ha : PK X kws (TMs G Wx (evL f ms))) : PE X (.Call (.Name x p) [] kws pos) (TM G Wx fun s h => (evL f ms s h).bind fun os s h => match pickO pk os with
      | some os => callC cf ce (.fn j) os s h
      | none => .fail) := by
  obtain ⟨h1, h2, h3⟩ := kw_all (env := X.env) (pos := pos) hn
  refine ⟨fun pins s σ H Q I hq => ?_⟩
  refine wpAny_Call_Name_kw (ld_glob I hg hm ?_ hdb)
  refine PySem.W.callWith_KW0 (h₀ := X.base) I.ok.mod.kin hk h1 ?_ (by rw [h2]; rfl)
  have hq2 : TMs G Wx (evL f ms) σ H fun zs H1 => ∀ sh, L2.Inv X pins σ H1 sh → ∃ cs, OwnC X H1 sh cs ∧ SpF G.toGS cf (.fn j) (pk.filterMap fun i => zs[i]?) (pubH H1 cs) (fun v H2 => (∀ c o, cs.lookup c = some o → H2 c = some (cellHO o)) → Q v (unpH H2 cs)) (fun cls d H2 => (∀ c o, cs.lookup c = some o → H2 c = some (cellHO o)) → Wx cls d (unpH H2 cs)) := by
    obtain ⟨F, r, s, h, L, R, a0, out⟩ := hq
    refine ⟨F, r, s, h, L, R, a0, (Out.cases out).mono (fun os s1 h1 o1 => ?_) (fun _ _ _ _ z => z)⟩
    intro F1 r1 H1 L1 vs M b1 ros wi1 sh I1
    split at o1
    · rename_i os' e
      unfold pickO at e
      split at e
      · exact absurd rfl hpk
      · split at e
        · rename_i ws ew
          cases e
          exact sp_pub I1 nd hce b1.share (M := []) (ROs.shs (pickL_rws ros.shareM ew)) wi1.share o1
        · cases e
    · exact o1.elim
  refine thn (ha.run pos pins s σ H _ I hq2) fun ws s2 ⟨zs, H2, I2, rz, q2⟩ => ⟨I2.kIn, ?_⟩
  rw [h3, hks]
  obtain ⟨cs, oc, sp⟩ := q2 s2 I2
  have r2 := vals_pick rz pk
  have hl : (pk.filterMap fun i => ws[i]?).length = ps.length := by rw [← r2.length]; exact Fn.len _ _ _ _ sp
  exact run_tail (us := []) tk I2 oc (Fn.run X.A X.stack s2 (pubH H2 cs) ⟨[], ks.zip ws⟩ _ _ _ _ hr (pub_env0 I2 oc) (hb s2 ws I2.kIn hl) r2 sp)
end
end Mini
set_option Elab.async false
set_option linter.all false
set_option maxRecDepth 100000
set_option maxHeartbeats 1000000
/-! Mini: more tests. -/
namespace Mini
open PySem L2
section
variable {G : GI} {Wx : WX} {X : Cx} {f : ME → SL → HH → R O} {tf : ME → SL → HH → R Bool} {F F1 : Fz} {r r1 : List Addr} {H H1 : Hp} {R L L1 : List Addr} {σ : L2.St} {s s1 : SL} {h h1 : HH}
/-- a test out of one operand -/
theorem w_ev1T {a : ME} {k : W → SL → HH → Mini.R Bool} {t1 : V → Hp → (Bool → Hp → Prop) → Prop}
    (hk : ∀ σ F r H h R s L x v Q, At G F r H R σ s h L → VW G F r H x v → Out (k x s h) (PB G F r H R σ Q) (EK G Wx F r H R σ) → t1 v H Q) :
    ∀ σ H Q, TMt G Wx (fun s h => (ev1 f a s h).bind k) σ H Q → TMd G Wx (evD f a) σ H fun v H1 => t1 v H1 Q := by
  rintro σ H Q ⟨F, r, s, h, L, R, a0, out⟩
  refine ⟨F, r, s, h, L, R, a0, (Out.cases (Out.cases out)).mono (fun d s1 h1 o1 => ?_) (fun _ _ _ _ z => z)⟩
  intro F1 r1 H1 L1 x b1 rd wi1
  have a1 := b1.at wi1
  obtain ⟨w, e1, o2⟩ := Out.ofO o1
  exact hk _ _ _ _ _ _ _ _ _ _ _ a1 (RD.view a1 rd e1) (o2.mono (fun _ _ _ z => z.tr0 b1) fun _ _ _ _ z => z.tr0 b1)
theorem pt_misn {ne : Bool} {a : ME} {ea : Expr} {pos : Pos} {o : CmpOp} {j : Nat} {p2 : Pos} (ho : (ne = false ∧ o = .Is) ∨ (ne = true ∧ o = .IsNot)) (ha : PE X ea (TMd G Wx (evD f a))) : PT X (.Compare ea [o] [.Constant .none j p2] pos)
    (TMt G Wx fun s h => (ev1 f a s h).bind fun w s h => .ok (if ne then !isNon w else isNon w) s h) := by
  have fin : ∀ {r2 : R2}, OpR X (compareOp o) r2 → behindInMarks o (.Constant .none j p2) = false → (∀ (F : Fz) (r : List Addr) (H : Hp) (h : HH) (R : List Addr) (x : W) (v : V) (Q : VK), WI G F r H h R → VW G F r H x v → Q (.bl (if ne then !isNon x else isNon x)) H → r2 v .non H Q) →
      PT X (.Compare ea [o] [.Constant .none j p2] pos) (TMt G Wx fun s h => (ev1 f a s h).bind fun w s h => .ok (if ne then !isNon w else isNon w) s h) := fun {r2} h1 hm h2 => by
    refine (pt_cmpR h1 ha pe_non hm).weak ?_
    refine w_ev1T (t1 := fun v H Q => r2 v .non H fun x H' => ∃ k, x = .bl k ∧ Q k H') fun σ F r H h R s L x v Q a va out => ?_
    exact h2 F r H h (L ++ R) x v _ a.wi va ⟨_, rfl, out F r H L a.here a.wi⟩
  rcases ho with ⟨rfl, rfl⟩ | ⟨rfl, rfl⟩
  · exact fin (op_isn (G := G)) rfl fun F r H h R x v Q wi va q => ⟨rfl, F, r, h, R, x, wi, va, q⟩
  · exact fin (op_nsn (G := G)) rfl fun F r H h R x v Q wi va q => ⟨rfl, F, r, h, R, x, wi, va, q⟩
theorem pt_misb {ne b : Bool} {a : ME} {ea : Expr} {pos : Pos} {o : CmpOp} {j : Nat} {p2 : Pos} (ho : (ne = false ∧ o = .Is) ∨ (ne = true ∧ o = .IsNot)) (ha : PE X ea (TMd G Wx (evD f a))) : PT X (.Compare ea [o] [.Constant (.bool b) j p2] pos)
    (TMt G Wx fun s h => (ev1 f a s h).bind fun w s h => match w with
      | .bl c => .ok (if ne then !(b == c) else b == c) s h
      | _ => .fail) := by
  have hb : ∀ c : Bool, decide (c = b) = (b == c) := fun c => by cases b <;> cases c <;> rfl
  rcases ho with ⟨rfl, rfl⟩ | ⟨rfl, rfl⟩
  · refine (pt_cmpR op_isBl ha pe_bl rfl).weak ?_
    refine w_ev1T (t1 := fun v H Q => rIsB v (.bl b) H fun x H' => ∃ k, x = .bl k ∧ Q k H') fun σ F r H h R s L x v Q a va out => ?_
    split at out
    · rename_i c
      exact ⟨c, b, va.bl, rfl, by rw [hb]; exact ⟨_, rfl, out F r H L a.here a.wi⟩⟩
    · exact out.elim
  · refine (pt_cmpR op_notBl ha pe_bl rfl).weak ?_
    refine w_ev1T (t1 := fun v H Q => rNotB v (.bl b) H fun x H' => ∃ k, x = .bl k ∧ Q k H') fun σ F r H h R s L x v Q a va out => ?_
    split at out
    · rename_i c
      exact ⟨c, b, va.bl, rfl, by rw [hb]; exact ⟨_, rfl, out F r H L a.here a.wi⟩⟩
    · exact out.elim
theorem w_chainV {op op' : COp} {a b c : ME} {Q : VK} : ∀ σ H, TMt G Wx (cmp2E f op op' a b c) σ H (fun k H' => Q (.bl k) H') → tChain (rCmp G (cmpD op)) (rCmp G (cmpD op')) (TMd G Wx (evD f a)) (TMd G Wx (evD f b)) (TMd G Wx (evD f c)) σ H Q := by
  rintro σ H ⟨F, r, s, h, L, R, a0, out⟩
  refine ⟨F, r, s, h, L, R, a0, (Out.cases out).mono (fun d s1 h1 o1 => ?_) (fun _ _ _ _ z => z)⟩
  intro F1 r1 H1 L1 x b1 rd wi1
  refine ⟨F1, r1, s1, h1, L1, R, b1.at wi1, (Out.cases o1).mono (fun d2 s2 h2 o2 => ?_) (fun _ _ _ _ z => z.tr0 b1)⟩
  intro F2' r2 H2 L2 y b2 rd2 wi2
  have b12 := b1.trans0 b2
  have a2 := b2.at wi2
  split at o2
  · rename_i x' y' e1 e2
    have vx := RD.view a2 (rd.mono b2.le) e1
    have vy := RD.view a2 rd2 e2
    split at o2
    · rename_i e3
      refine ⟨F2', r2, h2, L2 ++ R, x', y', true, wi2, vx, vy, e3, true, rfl, ?_⟩
      rw [if_pos rfl]
      refine ⟨F2', r2, s2, h2, L2, R, a2, (Out.cases o2).mono (fun d3 s3 h3 o3 => ?_) (fun _ _ _ _ z => z.tr0 b12)⟩
      intro F3 r3 H3 L3 z b3 rd3 wi3
      have a3 := b3.at wi3
      split at o3
      · rename_i y2 z2 e4 e5
        obtain ⟨k, e6, q⟩ := Out.ofO o3
        exact ⟨F3, r3, h3, L3 ++ R, y2, z2, k, wi3, RD.view a3 (rd2.mono b3.le) e4, RD.view a3 rd3 e5, e6, q F3 r3 H3 L3 (b12.trans0 b3) wi3⟩
      · exact o3.elim
    · rename_i e3
      refine ⟨F2', r2, h2, L2 ++ R, x', y', false, wi2, vx, vy, e3, false, rfl, ?_⟩
      rw [if_neg (by decide)]
      exact o2 F2' r2 H2 L2 b12 wi2
    · exact o2.elim
  · exact o2.elim
theorem w_chain {op op' : COp} {a b c : ME} : ∀ σ H Q, TMt G Wx (cmp2E f op op' a b c) σ H Q → tTest (tChain (rCmp G (cmpD op)) (rCmp G (cmpD op')) (TMd G Wx (evD f a)) (TMd G Wx (evD f b)) (TMd G Wx (evD f c))) σ H Q :=
  fun σ H Q ⟨F, r, s, h, L, R, a0, out⟩ => w_chainV σ H ⟨F, r, s, h, L, R, a0, out.mono (fun b s1 h1 o1 => fun F1 r1 H1 L1 b1 wi1 => ⟨b, rfl, o1 F1 r1 H1 L1 b1 wi1⟩) fun _ _ _ _ z => z⟩
theorem pt_mchain {op op' : COp} {o o' : CmpOp} {a b c : ME} {ea eb ec : Expr} {pos : Pos} (ho : OpR X (compareOp o) (rCmp G (cmpD op))) (ho' : OpR X (compareOp o') (rCmp G (cmpD op'))) (hm : plainE ec = true)
    (ha : PE X ea (TMd G Wx (evD f a))) (hb : PE X eb (TMd G Wx (evD f b))) (hc : PE X ec (TMd G Wx (evD f c))) : PT X (.Compare ea [o, o'] [eb, ec] pos) (TMt G Wx (cmp2E f op op' a b c)) :=
  (pt_chain ho ho' ha hb hc (show behindInMarks o' ec = false from plain_marks hm)).weak w_chain
theorem pe_mchain {op op' : COp} {o o' : CmpOp} {a b c : ME} {ea eb ec : Expr} {pos : Pos} (ho : OpR X (compareOp o) (rCmp G (cmpD op))) (ho' : OpR X (compareOp o') (rCmp G (cmpD op'))) (hm : plainE ec = true)
    (ha : PE X ea (TMd G Wx (evD f a))) (hb : PE X eb (TMd G Wx (evD f b))) (hc : PE X ec (TMd G Wx (evD f c))) : PE X (.Compare ea [o, o'] [eb, ec] pos) (TM G Wx fun s h => (cmp2E f op op' a b c s h).bind fun b s h => .ok (.sh (.bl b)) s h) := by
  refine (pe_chain ho ho' ha hb hc (show behindInMarks o' ec = false from plain_marks hm)).weak ?_
  rintro σ H Q ⟨F, r, s, h, L, R, a0, out⟩
  exact w_chainV σ H ⟨F, r, s, h, L, R, a0, (Out.cases out).mono (fun b s1 h1 o1 => fun F1 r1 H1 L1 b1 wi1 => o1 F1 r1 H1 L1 _ [] b1 (.sh (.bl b)) wi1) fun _ _ _ _ z => z⟩
end
end Mini
set_option Elab.async false
set_option linter.all false
set_option maxRecDepth 100000
set_option maxHeartbeats 1000000
/-! Mini: values that are called. -/
namespace Mini
open PySem L2
/-- what a closure does when it is called -/
def ClOk0 (P : Program) (w : World) (K : PySem.W.Frag) (mg : Str → Option Value) (base : Heap) (G : GS) (cf : CF) (k : Nat) : Prop :=
  ∀ (A : Around) (outer : List Env) (s : Shared) (H : Hp) (F : Fz) (r : List Addr) (a : Addr) (l : Nat) (cs : List Nat) (us : List Value) (vs : List V) (Q : VK) (E : XK),
    Room k A → Env0 P w K mg base A outer s H → RW G F r H (.clo l cs) (.ref a) → Vals vs us → SpAt G cf (.clo l cs) F r vs H Q E →
    codeAny (model P w) A (.call (.ref a) ⟨us, []⟩) (CR (L2.CX P w) outer P w H s Q E) s
def SplOk (P : Program) (w : World) (K : PySem.W.Frag) (mg : Str → Option Value) (base : Heap) (G : GS) (cf : CF) (k : Nat) : Prop :=
  ∀ j, G.spl j → ∃ ps, PySem.W.keepIn K (.ref (G.fa j)) = true ∧ Binds K (G.fd j) ps [] ∧ FnOk P w K mg base (L2.CX P w) k (G.fa j) (G.fd j) ps (SpS G cf j)
def ClOk (P : Program) (w : World) (K : PySem.W.Frag) (mg : Str → Option Value) (base : Heap) (G : GS) (cf : CF) (k : Nat) : Prop := ClOk0 P w K mg base G cf k ∧ SplOk P w K mg base G cf k
section
variable {G : GI} {Wx : WX} {X : Cx} {f : ME → SL → HH → R O} {F F1 : Fz} {r r1 : List Addr} {H H1 : Hp} {R L L1 : List Addr} {σ : L2.St} {s s1 : SL} {h h1 : HH} {k : Nat} {T : Nat → List Str} {x : Str} {p pos : Pos} {cf : CF} {ce : List (Option Nat)}
theorem callee_cases {o : O} {c : Callee} (e : calleeO o = some c) : (∃ j, o = .sh (.fn j) ∧ c = .fn j) ∨ ∃ l cs, o = .sh (.clo l cs) ∧ c = .clo l cs := by
  unfold calleeO at e
  split at e
  · cases e; exact .inl ⟨_, rfl, rfl⟩
  · cases e; exact .inr ⟨_, _, rfl, rfl⟩
  · cases e
theorem clo_at {pins : List (Addr × Obj)} {sh : Shared} {l : Nat} {cs : List Nat} {a : Addr} (I : L2.Inv X pins σ H sh) (q : RW G F r H (.clo l cs) (.ref a)) : PySem.W.FnAt a sh.heap := by
  cases q with
  | clo _ hf =>
    obtain ⟨hof, _⟩ := I.hok a _ hf
    exact ⟨_, _, _, _, hof⟩
/-- what is called by its value -/
def callFn : Expr → Bool
  | .Name _ _ => true
  | .Subscript _ _ _ => true
  | _ => false
theorem callFn_ok {fe : Expr} (h : callFn fe = true) (args : List Expr) (keywords : List Keyword) (pos : Pos) (env : Env) : eval (.Call fe args keywords pos) env = (do
    let f ← eval fe env
    callWith pos f [] (backTo pos (starEach args env)) (backToKw pos (keywordEach keywords env))) := by
  cases fe <;> first | rfl | cases h
theorem wpAny_Call_v {M : Model} {A : Around} {E : Value → Shared → Prop} {env : Env} {fe : Expr} {pos : Pos} {args : List Expr} {keywords : List Keyword} {Q : Value → Shared → Prop} {s : Shared} (hc : callFn fe = true)
    (h : wpAny M A (eval fe env) (fun f s₁ => wpAny M A (callWith pos f [] (backTo pos (starEach args env)) (backToKw pos (keywordEach keywords env))) Q E s₁) E s) : wpAny M A (eval (.Call fe args keywords pos) env) Q E s := by
  rw [callFn_ok hc]
  exact wpAny_bind h
theorem pe_mcallv {fe : Expr} {g : ME} {es : List Expr} {ms : List ME} (nd : X.N.Nodup) (hce : CeOk X G ce) (hr : Room k X.A) (Cl : ClOk X.prog X.w X.K X.mg X.base G.toGS cf k)
    (fnk : ∀ j, G.fok j → PySem.W.keepIn X.K (.ref (G.fa j)) = true ∧ Binds X.K (G.fd j) (T j) [] ∧ FnOk X.prog X.w X.K X.mg X.base (L2.CX X.prog X.w) k (G.fa j) (G.fd j) (T j) (SpF G.toGS cf (.fn j)))
    (tk : Takes X (fun c d _ H => Wx c d H)) (hp : ∀ e ∈ es, plainE e = true) (hl : ms.length = es.length) (hcf : callFn fe = true) (he : PE X fe (TM G Wx (f g))) (ha : PA X es (TMs G Wx (evL f ms))) : PE X (.Call fe es [] pos) (TM G Wx fun s h => (f g s h).bind fun o s h => match calleeO o with
      | some c => (evL f ms s h).bind fun os s h => callC cf ce c os s h
      | none => .fail) := by
  refine ⟨fun pins s σ H Q I hq => ?_⟩
  obtain ⟨F, r, s0, h, L, R, a0, out⟩ := hq
  refine wpAny_Call_v hcf (thn (he.run pins s σ H (fun v H1 => ∃ F1 r1 s1 h1 L1 w c, At G F1 r1 H1 R σ s1 h1 L1 ∧ Bh G F r H R σ F1 r1 H1 L1 s1 ∧ RW G F1 r1 H1 w v ∧ calleeO (.sh w) = some c ∧
      Out ((evL f ms s1 h1).bind fun os s h => callC cf ce c os s h) (PO G F r H R σ Q) (EK G Wx F r H R σ)) I ⟨F, r, s0, h, L, R, a0, (Out.cases out).mono (fun o s1 h1 o1 => ?_) (fun _ _ _ _ z => z)⟩) ?_)
  · intro F1 r1 H1 L1 v M b1 ro wi1
    split at o1
    · rename_i c ec
      rcases callee_cases ec with ⟨j, rfl, rfl⟩ | ⟨l, cs, rfl, rfl⟩
      · cases ro with
        | sh q => exact ⟨F1, r1, s1, h1, L1, _, _, b1.at wi1, b1, q, rfl, o1⟩
      · cases ro with
        | sh q => exact ⟨F1, r1, s1, h1, L1, _, _, b1.at wi1, b1, q, rfl, o1⟩
    · exact o1.elim
  · rintro u sh1 ⟨v, H1, I1, rv, F1, r1, s1, h1, L1, w, c, a1, b1, qw, ec, o1⟩
    have hq2 : TMs G Wx (evL f ms) σ H1 fun vs H2 => ∃ F2 r2, RW G F2 r2 H2 w v ∧ ∀ sh, L2.Inv X pins σ H2 sh → ∃ cs, OwnC X H2 sh cs ∧ ∃ F', Le F2 r2 H2 F' r2 (pubH H2 cs) ∧ SpAt G.toGS cf c F' r2 vs (pubH H2 cs) (fun v H3 => (∀ c o, cs.lookup c = some o → H3 c = some (cellHO o)) → Q v (unpH H3 cs)) (fun cls d H3 => (∀ c o, cs.lookup c = some o → H3 c = some (cellHO o)) → Wx cls d (unpH H3 cs)) := by
      refine ⟨F1, r1, s1, h1, L1, R, a1, (Out.cases o1).mono (fun os s2 h2 o2 => ?_) (fun _ _ _ _ z => z.tr0 b1)⟩
      intro F2 r2 H2 L2 vs M b2 ros wi2
      exact ⟨F2, r2, qw.mono b2.le, fun sh I2 => sp_pubL I2 nd hce (b1.trans0 b2) ros wi2 o2⟩
    rcases callee_cases ec with ⟨j, e1, rfl⟩ | ⟨l, cs', e1, rfl⟩
    · cases e1
      cases qw with
      | fn hj =>
        cases rv
        obtain ⟨hk, hb, Fn⟩ := fnk j hj
        have go : ∀ {us : List Value} {sh2 : Shared} {vs : List V} {H2 : Hp}, L2.Inv X pins σ H2 sh2 → Vals vs us → (∃ F2 r2, RW G.toGS F2 r2 H2 (.fn j) (.ref (G.fa j)) ∧ ∀ sh, L2.Inv X pins σ H2 sh → ∃ cs, OwnC X H2 sh cs ∧ ∃ F', Le F2 r2 H2 F' r2 (pubH H2 cs) ∧ SpAt G.toGS cf (.fn j) F' r2 vs (pubH H2 cs) (fun v H3 => (∀ c o, cs.lookup c = some o → H3 c = some (cellHO o)) → Q v (unpH H3 cs)) (fun cls d H3 => (∀ c o, cs.lookup c = some o → H3 c = some (cellHO o)) → Wx cls d (unpH H3 cs))) →
            wpAny (model X.prog X.w) X.A (PySem.call (.ref (G.fa j)) us []) (EP X pins σ Q) X.xe sh2 := by
          intro us sh2 vs H2 I2 rv2 ⟨F2, r2, _, q2⟩
          obtain ⟨cs, oc, F', _, sp⟩ := q2 sh2 I2
          obtain ⟨h2, os, L2, R2, z⟩ := sp
          exact run_pub (us := us) (ws := []) (zs := []) (ks := []) Fn hr (KBinds.ofB hb) tk I2 oc rv2 .nil ⟨F', r2, h2, os, L2, R2, z⟩
        cases es with
        | nil =>
          cases ms with
          | nil =>
            obtain ⟨F2, r2, s2, h2, L2, R2, a2, o2⟩ := hq2
            refine PySem.W.callWith_K0 I1.kIn hk (go (us := []) I1 .nil ?_)
            exact o2 F2 r2 H1 L2 [] [] a2.here .nil a2.wi
          | cons _ _ => cases hl
        | cons e es =>
          exact PySem.W.callWith_K (h₀ := X.base) I1.ok.mod.kin hk (thn (ha.run pos pins sh1 σ H1 _ I1 hq2) fun us s2 ⟨vs, H2, I2, r3, q⟩ => ⟨I2.kIn, go I2 r3 q⟩) (plain_star (hp e List.mem_cons_self)) (plain_all fun y hy => hp y (List.mem_cons_of_mem _ hy))
    · cases e1
      cases v with
      | ref a =>
        cases rv
        have go : ∀ {us : List Value} {sh2 : Shared} {vs : List V} {H2 : Hp}, L2.Inv X pins σ H2 sh2 → Vals vs us → (∃ F2 r2, RW G.toGS F2 r2 H2 (.clo l cs') (.ref a) ∧ ∀ sh, L2.Inv X pins σ H2 sh → ∃ cs, OwnC X H2 sh cs ∧ ∃ F', Le F2 r2 H2 F' r2 (pubH H2 cs) ∧ SpAt G.toGS cf (.clo l cs') F' r2 vs (pubH H2 cs) (fun v H3 => (∀ c o, cs.lookup c = some o → H3 c = some (cellHO o)) → Q v (unpH H3 cs)) (fun cls d H3 => (∀ c o, cs.lookup c = some o → H3 c = some (cellHO o)) → Wx cls d (unpH H3 cs))) →
            PySem.W.FnAt a sh2.heap ∧ wpAny (model X.prog X.w) X.A (PySem.call (.ref a) us []) (EP X pins σ Q) X.xe sh2 := by
          intro us sh2 vs H2 I2 rv2 ⟨F2, r2, qc, q2⟩
          obtain ⟨cs, oc, F', l3, sp⟩ := q2 sh2 I2
          exact ⟨clo_at I2 qc, run_tail (us := us) (ws := []) (ks := []) tk I2 oc (Cl.1 X.A X.stack sh2 _ F' r2 a l cs' us vs _ _ hr (pub_env0 I2 oc) (qc.mono l3) rv2 sp)⟩
        cases es with
        | nil =>
          cases ms with
          | nil =>
            obtain ⟨F2, r2, s2, h2, L2, R2, a2, o2⟩ := hq2
            refine PySem.W.callWith_F0 (clo_at I1 qw) (go (us := []) I1 .nil ?_).2
            exact o2 F2 r2 H1 L2 [] [] a2.here .nil a2.wi
          | cons _ _ => cases hl
        | cons e es =>
          exact PySem.W.callWith_F (clo_at I1 qw) (thn (ha.run pos pins sh1 σ H1 _ I1 hq2) fun us s2 ⟨vs, H2, I2, r3, q⟩ => go I2 r3 q) (plain_star (hp e List.mem_cons_self)) (plain_all fun y hy => hp y (List.mem_cons_of_mem _ hy))
      | _ => cases qw
/-- a list of its own becomes one of the heap -/
theorem WI.prom {a : Addr} {xs : List O} {vs : List V} {M : List Addr} (wi : WI G F r H h ((a :: M) ++ R)) (e : H a = some (.lst vs)) (q : ROs G F r H xs vs M) :
    Le F r H (fun b => F b ∨ b ∈ M) (r ++ [a]) H ∧ WI G (fun b => F b ∨ b ∈ M) (r ++ [a]) H (h ++ [.lst (O.toWs xs)]) R ∧ r.length = h.length := by
  have wi2 : WI G F r H h (M ++ (a :: R)) := wi.perm (by
    have z : (a :: (M ++ R)).Perm (M ++ (a :: R)) := List.perm_middle.symm
    exact z)
  have ws := wi2.share
  have q2 := q.shareM
  have l1 : Le F r H (fun b => F b ∨ b ∈ M) r H := Le.share
  have l2 : Le (fun b => F b ∨ b ∈ M) r H (fun b => F b ∨ b ∈ M) (r ++ [a]) H := ⟨fun _ h => h, fun _ _ => rfl, ⟨[a], rfl⟩, fun _ _ h => h, fun _ _ _ h _ => h, fun _ _ h => h⟩
  obtain ⟨⟨L, h1, h2, h3⟩, ff, tb, lk⟩ := ws
  have app : ∀ {h : HH} {q L : List Addr}, RH G.toGS (fun b => F b ∨ b ∈ M) (r ++ [a]) H h q L → RH G.toGS (fun b => F b ∨ b ∈ M) (r ++ [a]) H (h ++ [.lst (O.toWs xs)]) (q ++ [a]) (L ++ [a]) := by
    intro h q L hh
    induction hh with
    | nil => exact .lst e (q2.mono l2) .nil
    | lst x y _ ih => exact .lst x y ih
    | cel x y z t _ ih => exact .cel x y z t ih
    | cel0 _ ih => exact .cel0 ih
  have len : ∀ {h : HH} {q L : List Addr}, RH G.toGS (fun b => F b ∨ b ∈ M) r H h q L → q.length = h.length := by
    intro h q L hh
    induction hh with
    | nil => rfl
    | lst _ _ _ ih => simp [ih]
    | cel _ _ _ _ _ ih => simp [ih]
    | cel0 _ ih => simp [ih]
  refine ⟨l1.trans l2, ⟨⟨L ++ [a], app (h1.mono l2 fun _ _ => rfl), ?_, fun b hb => ?_⟩, ff, tb, fun p hp => ?_⟩, len h1⟩
  · rw [List.append_assoc]; exact h2
  · exact h3 b (by rw [List.append_assoc] at hb; exact hb)
  · have := lk p hp
    rw [List.getElem?_append_left (List.getElem?_eq_some_iff.mp this).1]
    exact this
theorem pe_mprom {e : Expr} {a : ME} (he : PE X e (TM G Wx (f a))) : PE X e (TM G Wx fun s h => (f a s h).bind fun o s h => match o with
      | .lst os => .ok (.sh (.hp h.length)) s (h ++ [.lst (O.toWs os)])
      | _ => .fail) := he.weak fun σ H Q ⟨F, r, s, h, L, R, a0, out⟩ => by
  refine ⟨F, r, s, h, L, R, a0, (Out.cases out).mono (fun o s1 h1 o1 => ?_) (fun _ _ _ _ z => z)⟩
  intro F1 r1 H1 L1 v M b1 ro wi1
  split at o1
  · rename_i xs
    cases ro with
    | lst hx q =>
      rename_i b vs M0
      obtain ⟨l, wi2, el⟩ := WI.prom (R := L1 ++ R) wi1 hx q
      refine o1 _ _ H1 L1 (.ref b) [] ⟨b1.le.trans l, b1.rs.mono l fun _ _ => rfl, b1.kp⟩ (.sh (.hp ?_)) wi2
      rw [← el, List.getElem?_append_right (Nat.le_refl _)]
      simp
  · exact o1.elim
end
end Mini
set_option Elab.async false
set_option linter.all false
set_option maxRecDepth 100000
set_option maxHeartbeats 1000000
/-! Mini: list(range(n)), list(d.items()). -/
namespace Mini
open PySem L2
section
variable {G : GI} {Wx : WX} {X : Cx} {f : ME → SL → HH → R O} {F F1 : Fz} {r r1 : List Addr} {H H1 : Hp} {R L L1 : List Addr} {σ : L2.St} {s s1 : SL} {h h1 : HH}
theorem Le.ext {H' : Hp} (w : WI G F r H h R) (e : ∀ b o, H b = some o → H' b = some o) : Le F r H F r H' :=
  ⟨fun _ h => h, fun a fa => by
    have n := (w.ff a fa).1
    cases q : H a with
    | none => exact absurd q n
    | some o => exact e a o q, ⟨[], by simp⟩, fun a xs q => e _ _ q, fun a o u q _ => e _ _ q, fun a φ q => e _ _ q⟩
theorem ext_eq {H' : Hp} (e : ∀ b o, H b = some o → H' b = some o) {b : Addr} (n : H b ≠ none) : H' b = H b := by
  cases q : H b with
  | none => exact absurd q n
  | some o => exact e b o q
theorem WI.ext {H' : Hp} (w : WI G F r H h R) (e : ∀ b o, H b = some o → H' b = some o) : WI G F r H' h R := by
  have l := Le.ext w e
  obtain ⟨⟨L, h1, h2, h3⟩, ff, tb, ow⟩ := w
  have k : ∀ {b}, Tr G H b → Tr G H' b := fun {b} t => t.at_ (by rw [ext_eq e t.1]; exact t.1)
  exact ⟨⟨L, h1.mono l fun b hb => ext_eq e (h3 b (List.mem_append_left _ hb)).2.1, h2, fun a ha => ⟨(h3 a ha).1, k (h3 a ha).2⟩⟩, fun a fa => k (ff a fa), tb.ext e, ow⟩
theorem WI.extNew {H' : Hp} {p : Addr} {o : HO} (w : WI G F r H h R) (e : ∀ b o, H b = some o → H' b = some o) (hp : H p = none) (hp' : H' p = some o) : WI G F r H' h (p :: R) := by
  have w2 := w.ext e
  obtain ⟨⟨L, h1, h2, h3⟩, ff, tb, ow⟩ := w2
  have old : ∀ a ∈ L ++ R, True := fun _ _ => trivial
  obtain ⟨⟨L0, g1, g2, g3⟩, ff0, tb0, ow0⟩ := w
  have nF : ¬ F p := fun fp => (ff0 p fp).1 hp
  have nT : ∀ q ∈ G.tabs, q.1 ≠ p := fun q hq ee => by
    obtain ⟨ps, z, _⟩ := tb0 q hq
    rw [ee, hp] at z
    cases z
  have l := Le.ext (⟨⟨L0, g1, g2, g3⟩, ff0, tb0, ow0⟩ : WI G F r H h R) e
  have k : ∀ {b}, Tr G H b → Tr G H' b := fun {b} t => t.at_ (by rw [ext_eq e t.1]; exact t.1)
  refine ⟨⟨L0, g1.mono l fun b hb => ext_eq e (g3 b (List.mem_append_left _ hb)).2.1, ?_, fun a ha => ?_⟩, fun a fa => k (ff0 a fa), tb0.ext e, ow0⟩
  · have pm : (L0 ++ p :: R).Perm (p :: (L0 ++ R)) := List.perm_middle
    exact pm.nodup_iff.mpr (List.nodup_cons.mpr ⟨fun z => (g3 p z).2.1 hp, g2⟩)
  · have ha : a ∈ p :: (L0 ++ R) := (List.perm_middle (l₁ := L0) (a := p) (l₂ := R)).mem_iff.mp ha
    rcases List.mem_cons.mp ha with z | z
    · subst z
      exact ⟨nF, by rw [hp']; simp, nT⟩
    · exact ⟨(g3 a z).1, k (g3 a z).2⟩
theorem rw_key {w : W} {k : Key} (e : kOf w = some k) : RW G F r H w (kV k) := by
  cases w with
  | int i => cases e; exact .int i
  | str s => cases e; exact .str s
  | _ => cases e
theorem items_rws : ∀ {ks vs : List W} {kvs : List (Key × V)} {ts : List Addr}, ks.map kOf = kvs.map (fun p => some p.1) → RWs G F r H vs (kvs.map (·.2)) → Paired (fun (t : Addr) (q : Key × V) => H t = some (.tup [kV q.1, q.2])) ts kvs → RWs G F r H (zipW ks vs) (ts.map V.ref)
  | [], vs, [], ts, _, q, p => by
    cases p
    cases q
    exact .nil
  | [], _, _ :: _, _, e, _, _ => by simp at e
  | _ :: _, _, [], _, e, _, _ => by simp at e
  | k :: ks, _, (kk, v) :: kvs, _, e, .cons a b, p => by
    simp only [List.map_cons, List.cons.injEq] at e
    cases p with
    | cons hp pr => exact .cons (.tup hp (.cons (rw_key e.1) (.cons a .nil))) (items_rws e.2 b pr)
theorem opOk_ref {w : W} {v : V} {n : Nat} (q : RW G F r H w v) (h : partsN w = some n) : ∃ a, v = .ref a := by
  cases q <;> first | exact ⟨_, rfl⟩ | cases h
theorem pe_mseal {cf : CF} {m : ME} {e : Expr} {t : Nat} (sl : SealOk G.toGS cf) (he : PE X e (TM G Wx (f m))) : PE X e (TM G Wx fun s h => (f m s h).bind fun o s h => callR cf (.tok t) [o] s h) := by
  refine he.weak ?_
  rintro σ H Q ⟨F, r, s, h, L, R, a0, out⟩
  refine ⟨F, r, s, h, L, R, a0, (Out.cases out).mono (fun o s1 h1 o1 => ?_) (fun _ _ _ _ z => z)⟩
  intro F1 r1 H1 L1 v M b1 ro wi1
  unfold callR at o1
  rcases sl t [o] h1 with e | ⟨o', i, e', e, et, hop⟩
  · rw [e] at o1
    exact o1.elim
  · rw [e] at o1
    cases e'
    have q := ro.shareM
    obtain ⟨a, rfl⟩ := opOk_ref q hop.1
    rw [et] at q hop
    exact o1 _ r1 H1 L1 (.ref a) [] b1.share (.sh (.opq q hop)) wi1.share
theorem pe_mitems {m : ME} {e : Expr} {p apos cpos pos : Pos} (hc : X.calm = true) (hg : Gl X "list") (hm : X.mg "list" = none) (hp : plainE e = true) (hline : (apos.endLine == cpos.line) = true) (h0 : noCall0 e = true) (he : PE X e (TM G Wx (f m))) :
    PE X (.Call (.Name "list" p) [.Call (.Attribute e "items" apos) [] [] cpos] [] pos) (TM G Wx fun s h => (f m s h).bind fun o s h => match o.toW with
      | .dic false ks vs => .ok (.lst ((zipW ks vs).map .sh)) s h
      | _ => .fail) := by
  refine (LiI.pe_listItems hc he hg hm PyProof.Rows.boot_list (plain_base hp h0) hline).weak ?_
  rintro σ H Q ⟨F, r, s, h, L, R, a0, out⟩
  refine ⟨F, r, s, h, L, R, a0, (Out.cases out).mono (fun o s1 h1 o1 => ?_) (fun _ _ _ _ z => z)⟩
  intro F1 r1 H1 L1 v M b1 ro wi1
  split at o1
  · rename_i ks vs ew
    have q := ro.shareM
    rw [ew] at q
    cases q with
    | dicK fa ha ek qv =>
      refine ⟨_, _, rfl, ha, fun H' p ts ext np nts npt hp' pr => ?_⟩
      have ws := wi1.share
      have l := Le.ext ws ext
      have kp : ∀ b ∈ L1 ++ R, H' b = H1 b := fun b hb => ext_eq ext (ws.there hb)
      refine o1 _ r1 H' L1 (.ref p) [p] ⟨(b1.le.trans Le.share).trans l, (b1.rs.mono Le.share fun _ _ => rfl).mono l fun b hb => kp b (List.mem_append_left _ hb), fun b hb => (kp b (List.mem_append_right _ hb)).trans (b1.kp b hb)⟩ (RO.lst hp' (ROs.shs ?_)) (ws.extNew ext np hp')
      exact items_rws ek (qv.mono l) pr
  · exact o1.elim
theorem rngV_rws : ∀ (n : Nat) (a : Int), RWs G F r H (rngW a 1 n) ((List.range n).map fun i => V.int (a + (i : Nat)))
  | 0, _ => .nil
  | n + 1, a => by
    have ih := rngV_rws n (a + 1)
    rw [List.range_succ_eq_map, List.map_cons, List.map_map]
    refine .cons (by simpa using RW.int (G := G) (F := F) (r := r) (H := H) a) ?_
    have : ((fun i : Nat => V.int (a + (i : Nat))) ∘ Nat.succ) = fun i : Nat => V.int (a + 1 + (i : Nat)) := by
      funext i
      show V.int (a + ((i + 1 : Nat) : Int)) = _
      congr 1
      omega
    rw [this]
    exact ih
theorem pe_mlrng {m : ME} {e : Expr} {p p2 pos pos2 : Pos} (hc : X.calm = true) (hg : Gl X "list") (hm : X.mg "list" = none) (hg2 : Gl X "range") (hm2 : X.mg "range" = none) (hp : plainE e = true) (he : PE X e (TMd G Wx (evD f m))) :
    PE X (.Call (.Name "list" p) [.Call (.Name "range" p2) [e] [] pos2] [] pos) (TM G Wx fun s h => (ev1 f m s h).bind fun w s h => match w with
      | .int k => if rgOk k && decide (k.toNat ≤ line) then .ok (.lst ((rangeW 0 k 1).map .sh)) s h else .fail
      | _ => .fail) := by
  refine (pe_listRg hc hg hm (prg_1 hg2 hm2 he (plain_star hp))).weak ?_
  intro σ H Q hq
  refine w_ev1 (α := O) (t1 := fun v H1 Q => ∃ n, v = .int n ∧ (RgOk 0 n ∧ ∀ q, H1 q = none → Q (.ref q) (upd H1 q (.lst (rgV 0 n))))) (fun σ F r H h R s L x v Q a va out => ?_) σ H Q hq
  split at out
  · rename_i k
    split at out
    · rename_i hk
      rw [Bool.and_eq_true, decide_eq_true_eq] at hk
      have hz := rgOk_ok hk.1
      refine ⟨k, va.int, ⟨by decide, by decide, hz.1, hz.2, by have := hk.2; rw [line_eq, sizeLine_eq] at this; omega⟩, fun p np => ?_⟩
      have l := Le.new a.wi np (.lst (rgV 0 k))
      have kp : ∀ b ∈ L ++ R, upd H p (.lst (rgV 0 k)) b = H b := fun b hb => upd_ne (a.wi.ne hb np)
      refine out F r _ L (.ref p) [p] ⟨l, a.rs.mono l fun b hb => kp b (List.mem_append_left _ hb), fun b hb => kp b (List.mem_append_right _ hb)⟩ (.lst upd_same (ROs.shs ?_)) (a.wi.new np _)
      have e1 : rangeW 0 k 1 = rngW 0 1 k.toNat := by simp [rangeW, turns]
      rw [e1]
      unfold rgV
      rw [show (k - 0).toNat = k.toNat by omega]
      exact rngV_rws _ 0
    · exact out.elim
  · exact out.elim
theorem pe_mlrng2 {m m2 : ME} {e e2 : Expr} {p p2 pos pos2 : Pos} (hc : X.calm = true) (hg : Gl X "list") (hm : X.mg "list" = none) (hg2 : Gl X "range") (hm2 : X.mg "range" = none) (hp : plainE e = true) (hp2 : plainE e2 = true) (he : PE X e (TMd G Wx (evD f m))) (he2 : PE X e2 (TMd G Wx (evD f m2))) :
    PE X (.Call (.Name "list" p) [.Call (.Name "range" p2) [e, e2] [] pos2] [] pos) (TM G Wx fun s h => ev2 f m m2 s h fun x y s h => match x, y with
      | .int i, .int j => if rgOk i && (rgOk j && decide ((j - i).toNat ≤ line)) then .ok (.lst ((rangeW i j 1).map .sh)) s h else .fail
      | _, _ => .fail) := by
  refine (pe_listRg hc hg hm (prg_2 hg2 hm2 he he2 (by rw [plain_star hp, plain_star hp2] <;> rfl) (plain_star hp2) (by rw [plain_star hp2] <;> rfl))).weak ?_
  refine w_ev2 (r2 := fun v u H1 Q => ∃ i j, v = .int i ∧ u = .int j ∧ (RgOk i j ∧ ∀ q, H1 q = none → Q (.ref q) (upd H1 q (.lst (rgV i j))))) fun σ F r H h R s L x y v u Q a va vb out => ?_
  split at out
  · rename_i i j
    split at out
    · rename_i hk
      rw [Bool.and_eq_true, Bool.and_eq_true, decide_eq_true_eq] at hk
      have hz := rgOk_ok hk.1
      have hy := rgOk_ok hk.2.1
      refine ⟨i, j, va.int, vb.int, ⟨hz.1, hz.2, hy.1, hy.2, by have := hk.2.2; rw [line_eq, sizeLine_eq] at this; omega⟩, fun p np => ?_⟩
      have l := Le.new a.wi np (.lst (rgV i j))
      have kp : ∀ b ∈ L ++ R, upd H p (.lst (rgV i j)) b = H b := fun b hb => upd_ne (a.wi.ne hb np)
      refine out F r _ L (.ref p) [p] ⟨l, a.rs.mono l fun b hb => kp b (List.mem_append_left _ hb), fun b hb => kp b (List.mem_append_right _ hb)⟩ (.lst upd_same (ROs.shs ?_)) (a.wi.new np _)
      have e1 : rangeW i j 1 = rngW i 1 (j - i).toNat := by simp [rangeW, turns]
      rw [e1]
      unfold rgV
      exact rngV_rws _ i
    · exact out.elim
  · exact out.elim
end
end Mini
set_option Elab.async false
set_option linter.all false
set_option maxRecDepth 100000
set_option maxHeartbeats 1000000
/-! Mini: tuples of owned things; calls that only look. -/
namespace Mini
open PySem L2
section
variable {G : GI} {Wx : WX} {X : Cx} {f : ME → SL → HH → R O} {F F1 : Fz} {r r1 : List Addr} {H H1 : Hp} {R L L1 : List Addr} {σ : L2.St} {s s1 : SL} {h h1 : HH} {k j : Nat} {ps : List Str} {x : Str} {p pos : Pos} {cf : CF}
/-- a thing is shared from now on -/
theorem pe_mshr {a : ME} {e : Expr} (he : PE X e (TM G Wx (f a))) : PE X e (TM G Wx fun s h => (f a s h).bind fun o s h => .ok (.sh o.toW) s h) := he.weak fun σ H Q ⟨F, r, s, h, L, R, a0, out⟩ =>
  ⟨F, r, s, h, L, R, a0, (Out.cases out).mono (fun o s1 h1 o1 F1 r1 H1 L1 v M b1 ro wi1 => o1 _ r1 H1 L1 v [] b1.share (.sh ro.shareM) wi1.share) (fun _ _ _ _ z => z)⟩
theorem pe_mbtup {a : ME} {e : Expr} (hg : Gl X "tuple") (hm : X.mg "tuple" = none) (hp : plainE e = true) (he : PE X e (TM G Wx (f a))) :
    PE X (.Call (.Name "tuple" p) [e] [] pos) (TM G Wx fun s h => (f a s h).bind fun o s h => ofO (tupO o) s h) := by
  refine (pe_callTy call_tuple_of hg hm rfl (pa_cons he pa_nil (plain_star hp)) (he := plain_star hp)).weak ?_
  rintro σ H Q ⟨F, r, s, h, L, R, a0, out⟩
  refine ⟨F, r, s, h, L, R, a0, (Out.cases out).mono (fun o s1 h1 o1 => ?_) (fun _ _ _ _ z => z)⟩
  intro F1 r1 H1 L1 v M b1 ro wi1
  obtain ⟨o', eo, q⟩ := Out.ofO o1
  have fresh : ∀ {M1 : List Addr} {vs : List V} {l : Addr}, H1 l = none → WI G F1 r1 H1 h1 (M1 ++ (L1 ++ R)) → RO G F1 r1 (upd H1 l (.tup vs)) o' (.ref l) M1 → Q (.ref l) (upd H1 l (.tup vs)) := by
    intro M1 vs l hl w ro
    have le := Le.new w hl (.tup vs)
    have kp : ∀ b ∈ L1 ++ R, upd H1 l (.tup vs) b = H1 b := fun b hb => upd_ne (w.right.ne hb hl)
    have b2 : Bh G F r H R σ F1 r1 (upd H1 l (.tup vs)) L1 s1 := ⟨b1.le.trans le, b1.rs.mono le fun b hb => kp b (List.mem_append_left _ hb), fun b hb => (kp b (List.mem_append_right _ hb)).trans (b1.kp b hb)⟩
    exact q F1 r1 _ L1 _ M1 b2 ro (w.newT hl _)
  cases ro with
  | sh ro =>
    rename_i w
    cases w with
    | lst ws =>
      simp only [tupO, Option.some.injEq] at eo
      subst eo
      cases ro with
      | lst fa ha qa =>
        rename_i b vs
        refine ⟨_, vs, rfl, .inl ⟨.of ha, fun l hl => ?_⟩⟩
        have le := Le.new wi1 hl (.tup vs)
        exact fresh (M1 := []) hl wi1 (.sh (.tup upd_same (qa.mono le)))
    | tup ws =>
      simp only [tupO, Option.some.injEq] at eo
      subst eo
      cases ro with
      | tup ha qa => exact ⟨_, _, rfl, .inr ⟨.of ha, q F1 r1 H1 L1 _ [] b1 (.sh (.tup ha qa)) wi1⟩⟩
    | _ => simp [tupO] at eo
  | lst ha qa =>
    rename_i b xs vs M0
    have w2 : WI G F1 r1 H1 h1 (M0 ++ (L1 ++ R)) := wi1.of (fun y hy => List.mem_cons_of_mem _ hy) (List.nodup_cons.mp wi1.nodup).2
    refine ⟨_, vs, rfl, .inl ⟨.of ha, fun l hl => ?_⟩⟩
    have le := Le.new w2 hl (.tup vs)
    unfold tupO at eo
    dsimp only at eo
    cases es : shs? xs with
    | some ws =>
      rw [es] at eo
      simp only [Option.some.injEq] at eo
      subst eo
      obtain ⟨z1, z2⟩ := qa.ofShs es
      subst z2
      exact fresh (M1 := []) hl w2 (.sh (.tup upd_same (z1.mono le)))
    | none =>
      rw [es] at eo
      simp only [Option.some.injEq] at eo
      subst eo
      exact fresh hl w2 (.tup upd_same (qa.mono le fun y hy => upd_ne (w2.ne (List.mem_append_left _ hy) hl)))
  | tup ha qa =>
    simp only [tupO, Option.some.injEq] at eo
    subst eo
    exact ⟨_, _, rfl, .inr ⟨.of ha, q F1 r1 H1 L1 _ M b1 (.tup ha qa) wi1⟩⟩
  | dicK _ _ _ => simp [tupO] at eo
  | dicT _ _ _ => simp [tupO] at eo
/-! ### calls that only look -/
theorem RH.hide : ∀ {h : HH} {q L : List Addr}, RH G.toGS F r H h q L → ∀ {F' : Fz} {H' : Hp} {r' : List Addr}, RH G.toGS F' r' H' (Mini.hide h) q []
  | _, _, _, .nil, _, _, _ => .nil
  | _, _, _, .lst _ _ b, _, _, _ => .cel0 (RH.hide b)
  | _, _, _, .cel _ _ _ _ b, _, _, _ => .cel0 (RH.hide b)
  | _, _, _, .cel0 b, _, _, _ => .cel0 (RH.hide b)
theorem lookS_rw (q : RS G F r H s σ L) : ∀ {is : List Nat} {ws : List W}, lookS s is = some ws → ∃ vs : List V, RWs G (fun a => F a ∨ a ∈ L) r H ws vs ∧ vs.length = is.length ∧ ∀ (n i : Nat), is[n]? = some i → ∃ v, vs[n]? = some v ∧ σ[i]? = some (some v)
  | [], ws, e => by cases e; exact ⟨[], .nil, rfl, fun n i e => by simp at e⟩
  | i :: is, ws, e => by
    unfold lookS at e
    split at e
    · rename_i o ws' e1 e2
      cases e
      obtain ⟨vs, h1, h2, h3⟩ := lookS_rw q e2
      have hi := (List.getElem?_eq_some_iff.mp e1).1
      obtain ⟨A, M, B, eL, _, _, c⟩ := q.split i hi
      rcases c with ⟨z, _⟩ | ⟨o', v, z1, z2, ro⟩
      · rw [e1] at z; cases z
      · rw [e1] at z1
        cases z1
        have rw' : RW G (fun a => F a ∨ a ∈ L) r H o.toW v := ro.share Le.share fun b hb => ⟨rfl, .inr (by rw [eL]; simp [hb])⟩
        refine ⟨v :: vs, .cons rw' h1, by simp [h2], fun n i' e' => ?_⟩
        cases n with
        | zero => simp at e'; subst e'; exact ⟨v, rfl, z2⟩
        | succ n => exact h3 n i' (by simpa using e')
    · cases e
theorem ros_shs : ∀ {ws : List W} {vs : List V}, RWs G F r H ws vs → ROs G F r H (ws.map .sh) vs [] := ROs.shs
/-- the names' things -/
theorem pa_names : ∀ {is : List Nat} {es : List Expr}, F2 (fun i e => PE X e (tVar i) ∧ plainE e = true) is es → PA X es fun (σ : L2.St) H Q => ∃ vs : List V, vs.length = is.length ∧ (∀ (n i : Nat), is[n]? = some i → ∃ v, vs[n]? = some v ∧ σ[i]? = some (some v)) ∧ Q vs H
  | _, _, .nil => pa_nil.weak fun σ H Q ⟨vs, h1, _, q⟩ => by
    cases vs with
    | nil => exact q
    | cons v vs => simp at h1
  | i :: is, _, .cons a b => (pa_cons a.1 (pa_names b) (plain_star a.2)).weak fun σ H Q ⟨vs, h1, h2, q⟩ => by
    cases vs with
    | nil => simp at h1
    | cons v vs =>
      obtain ⟨v', e1, e2⟩ := h2 0 i rfl
      simp at e1
      subst e1
      exact ⟨v, e2, vs, by simpa using h1, fun n i' e => by
        obtain ⟨v', q1, q2⟩ := h2 (n + 1) i' (by simpa using e)
        exact ⟨v', by simpa using q1, q2⟩, q⟩
theorem WI.hide (w : WI G F r H h (L ++ R)) : ∃ Lh, RH G.toGS F r H h r Lh ∧ WI ⟨G.toGS, []⟩ (fun a => F a ∨ a ∈ L) r H (Mini.hide h) (Lh ++ R) := by
  have ws := w.share
  obtain ⟨⟨Lh, h1, h2, h3⟩, ff, tb, ow⟩ := w
  obtain ⟨⟨Lh', g1, g2, g3⟩, ff', tb', ow'⟩ := ws
  have hn := List.nodup_append.mp h2
  have hn2 := List.nodup_append.mp hn.2.1
  refine ⟨Lh, h1, ⟨[], h1.hide, ?_, fun a ha => ⟨fun z => ?_, ?_⟩⟩, ff', tb', fun p hp => by cases hp⟩
  · rw [List.nil_append]
    exact List.nodup_append.mpr ⟨hn.1, hn2.2.1, fun a ha b hb => hn.2.2 a ha b (List.mem_append_right _ hb)⟩
  · rw [List.nil_append] at ha
    rcases z with z | z
    · rcases List.mem_append.mp ha with q | q
      · exact (h3 a (List.mem_append_left _ q)).1 z
      · exact (h3 a (List.mem_append_right _ (List.mem_append_right _ q))).1 z
    · rcases List.mem_append.mp ha with q | q
      · exact hn.2.2 a q a (List.mem_append_left _ z) rfl
      · exact hn2.2.2 a z a q rfl
  · rw [List.nil_append] at ha
    rcases List.mem_append.mp ha with q | q
    · exact (h3 a (List.mem_append_left _ q)).2
    · exact (h3 a (List.mem_append_right _ (List.mem_append_right _ q))).2
/-- what was hidden is there again -/
theorem WI.back {F1 : Fz} {r1 : List Addr} {h1 : HH} {Lh R1 : List Addr} (w : WI G F r H h (L ++ R)) (q : RH G.toGS F r H h r Lh) (l : Le (fun a => F a ∨ a ∈ L) r H F1 r1 H1) (kp : ∀ b ∈ Lh ++ R, H1 b = H b) (w1 : WI ⟨G.toGS, []⟩ F1 r1 H1 h1 R1) :
    Le F r H F r H1 ∧ (∀ b ∈ L ++ R, H1 b = H b) ∧ WI G F r H1 h (L ++ R) := by
  have le : Le F r H F r H1 := ⟨fun _ h => h, fun a fa => l.k a (.inl fa), ⟨[], by simp⟩, l.t, l.z, l.x⟩
  have kL : ∀ b ∈ L ++ R, H1 b = H b := fun b hb => by
    rcases List.mem_append.mp hb with z | z
    · exact l.k b (.inr z)
    · exact kp b (List.mem_append_right _ z)
  refine ⟨le, kL, ?_⟩
  obtain ⟨⟨Lh2, g1, g2, g3⟩, ff, tb, ow⟩ := w
  have eL : Lh2 = Lh := by
    have go : ∀ {h : HH} {q A B : List Addr}, RH G.toGS F r H h q A → RH G.toGS F r H h q B → A = B := by
      intro h q A B a
      induction a generalizing B with
      | nil => intro b; cases b; rfl
      | lst _ _ _ ih => intro b; cases b with | lst _ _ b => rw [ih b]
      | cel _ _ _ _ _ ih => intro b; cases b with | cel _ _ _ _ b => rw [ih b]
      | cel0 _ ih => intro b; cases b with | cel0 b => exact ih b
    exact go g1 q
  subst eL
  refine ⟨⟨Lh2, g1.mono le fun b hb => kp b (List.mem_append_left _ hb), g2, fun a ha => ⟨(g3 a ha).1, (g3 a ha).2.at_ ?_⟩⟩, fun a fa => (ff a fa).at_ ?_, w1.tabs, ow⟩
  · have e : H1 a = H a := by
      rcases List.mem_append.mp ha with z | z
      · exact kp a (List.mem_append_left _ z)
      · exact kL a z
    rw [e]
    exact (g3 a ha).2.1
  · rw [l.k a (.inl fa)]
    exact (ff a fa).1
theorem pe_mbcall {es : List Expr} {is : List Nat} (hne : es ≠ []) (Fn : FnOk X.prog X.w X.K X.mg X.base (L2.CX X.prog X.w) k (G.fa j) (G.fd j) ps (SpF G.toGS cf (.fn j))) (hr : Room k X.A) (hg : Gl X x) (hm : X.mg x = some (.ref (G.fa j))) (hk : PySem.W.keepIn X.K (.ref (G.fa j)) = true) (hb : Binds X.K (G.fd j) ps [])
    (tk : Takes X (fun c d _ H => Wx c d H)) (hdb : (x == ("__debug__" : Str)) = false) (ha : F2 (fun i e => PE X e (tVar i) ∧ plainE e = true) is es) : PE X (.Call (.Name x p) es [] pos) (TM G Wx (bcallR cf j is)) := by
  refine ⟨fun pins s σ H Q I hq => ?_⟩
  refine wpAny_Call_Name_kw (ld_glob I hg hm ?_ hdb)
  obtain ⟨F, r, s0, h, L, R, a0, out⟩ := hq
  unfold bcallR at out
  split at out
  · rename_i ws el
    obtain ⟨vs, q1, q2, q3⟩ := lookS_rw a0.rs el
    obtain ⟨Lh, qh, wh⟩ := a0.wi.hide
    have sp : ∀ sh, L2.Inv X pins σ H sh → SpF G.toGS cf (.fn j) vs (pubH H []) (fun v H2 => (∀ c o, ([] : List (Addr × Obj)).lookup c = some o → H2 c = some (cellHO o)) → Q v (unpH H2 [])) (fun cls d H2 => (∀ c o, ([] : List (Addr × Obj)).lookup c = some o → H2 c = some (cellHO o)) → Wx cls d (unpH H2 [])) := by
      intro sh _
      have e0 : pubH H [] = H := funext fun _ => rfl
      rw [e0]
      refine ⟨_, r, Mini.hide h, ws.map .sh, [], Lh ++ R, ROs.shs q1, by simpa using wh, ?_⟩
      cases ec : cf (.fn j) (ws.map .sh) (Mini.hide h) with
      | fail => rw [ec] at out; exact out.elim
      | exc c ws' s' h' => rw [ec] at out; exact out.elim
      | ok o s' h' =>
        rw [ec] at out
        cases o with
        | sh w =>
          dsimp only at out
          split at out
          · rename_i hc
            simp only [Bool.and_eq_true, decide_eq_true_eq] at hc
            intro F1 r1 H1 v M l kp ro w1 _
            have e1 : unpH H1 [] = H1 := funext fun _ => rfl
            rw [e1]
            obtain ⟨le, kL, w2⟩ := a0.wi.back qh l kp w1
            have flat : RO G F r H1 (.sh w) v [] := by
              cases ro with
              | sh ro =>
                refine .sh ?_
                cases w with
                | non => cases ro; exact .non
                | bl b => cases ro; exact .bl b
                | int i => cases ro; exact .int i
                | str i => cases ro; exact .str i
                | _ => simp [flat0] at hc
            exact out F r H1 L v [] ⟨le, a0.rs.mono le fun b hb => kL b (List.mem_append_left _ hb), fun b hb => kL b (List.mem_append_right _ hb)⟩ flat w2
          · exact out.elim
        | lst _ => exact out.elim
        | tup _ => exact out.elim
        | dic _ _ _ => exact out.elim
    cases es with
    | nil => exact absurd rfl hne
    | cons e es =>
      have hp : ∀ y ∈ e :: es, plainE y = true := F2.right (p := fun (_ : Nat) e => plainE e = true) (fun _ _ q => q) (ha.imp fun _ _ q => q.2)
      refine PySem.W.callWith_K (h₀ := X.base) I.ok.mod.kin hk (thn ((pa_names ha).run pos pins s σ H (fun vs H1 => ∀ sh, L2.Inv X pins σ H1 sh → SpF G.toGS cf (.fn j) vs (pubH H1 []) (fun v H2 => (∀ c o, ([] : List (Addr × Obj)).lookup c = some o → H2 c = some (cellHO o)) → Q v (unpH H2 [])) (fun cls d H2 => (∀ c o, ([] : List (Addr × Obj)).lookup c = some o → H2 c = some (cellHO o)) → Wx cls d (unpH H2 []))) I ⟨vs, q2, q3, sp⟩) fun us s1 ⟨vs, H1, I1, r, q⟩ => ⟨I1.kIn, ?_⟩) (plain_star (hp e List.mem_cons_self)) (plain_all fun y hy => hp y (List.mem_cons_of_mem _ hy))
      have hsp := q s1 I1
      exact run_pub (ws := []) (zs := []) (ks := []) Fn hr (KBinds.ofB hb) tk I1 (cs := []) ⟨fun c o e => by cases e⟩ r .nil hsp
  · exact out.elim
/-- a value that is called with keywords only -/
theorem pe_mcallvK {fe : Expr} {g : ME} {kws : List Keyword} {ms : List ME} {ks : List Str} {pk fs : List Nat} {T : Nat → List Str} {ce : List (Option Nat)} (nd : X.N.Nodup) (hce : CeOk X G ce) (hr : Room k X.A)
    (fnk : ∀ j, G.fok j → PySem.W.keepIn X.K (.ref (G.fa j)) = true ∧ Binds X.K (G.fd j) (T j) [] ∧ FnOk X.prog X.w X.K X.mg X.base (L2.CX X.prog X.w) k (G.fa j) (G.fd j) (T j) (SpF G.toGS cf (.fn j)))
    (hpk : pk ≠ []) (hb : ∀ j, fs.contains j = true → KwOk X.K (G.fd j) (T j) ks pk) (tk : Takes X (fun c d _ H => Wx c d H)) (hn : ∀ k ∈ kws, k.arg.isSome = true) (hks : kws.filterMap (·.arg) = ks) (hcf : callFn fe = true) (he : PE X fe (TM G Wx (f g))) (ha : PK X kws (TMs G Wx (evL f ms))) :
    PE X (.Call fe [] kws pos) (TM G Wx fun s h => (f g s h).bind fun o s h => match o with
      | .sh (.fn j) => if fs.contains j then (evL f ms s h).bind fun os s h => match pickO pk os with
        | some os => callC cf ce (.fn j) os s h
        | none => .fail
        else .fail
      | _ => .fail) := by
  obtain ⟨h1, h2, h3⟩ := kw_all (env := X.env) (pos := pos) hn
  refine ⟨fun pins s σ H Q I hq => ?_⟩
  obtain ⟨F, r, s0, h, L, R, a0, out⟩ := hq
  refine wpAny_Call_v hcf (thn (he.run pins s σ H (fun v H1 => ∃ j, v = .ref (G.fa j) ∧ G.fok j ∧ fs.contains j = true ∧ ∃ F1 r1 s1 h1 L1, At G F1 r1 H1 R σ s1 h1 L1 ∧ Bh G F r H R σ F1 r1 H1 L1 s1 ∧
      Out ((evL f ms s1 h1).bind fun os s h => match pickO pk os with
        | some os => callC cf ce (.fn j) os s h
        | none => .fail) (PO G F r H R σ Q) (EK G Wx F r H R σ)) I ⟨F, r, s0, h, L, R, a0, (Out.cases out).mono (fun o s1 h1 o1 => ?_) (fun _ _ _ _ z => z)⟩) ?_)
  · intro F1 r1 H1 L1 v M b1 ro wi1
    split at o1
    · rename_i j
      split at o1
      · rename_i hf
        cases ro with
        | sh q =>
          cases q with
          | fn hj => exact ⟨j, rfl, hj, hf, F1, r1, s1, h1, L1, b1.at wi1, b1, o1⟩
      · exact o1.elim
    · exact o1.elim
  · rintro u sh1 ⟨v, H1, I1, rv, j, rfl, hj, hf, F1, r1, s1, h1', L1, a1, b1, o1⟩
    cases rv
    obtain ⟨hk, _, Fn⟩ := fnk j hj
    refine PySem.W.callWith_KW0 (h₀ := X.base) I1.ok.mod.kin hk h1 ?_ (by rw [h2]; rfl)
    have hq2 : TMs G Wx (evL f ms) σ H1 fun zs H2 => ∀ sh, L2.Inv X pins σ H2 sh → ∃ cs, OwnC X H2 sh cs ∧ SpF G.toGS cf (.fn j) (pk.filterMap fun i => zs[i]?) (pubH H2 cs) (fun v H2 => (∀ c o, cs.lookup c = some o → H2 c = some (cellHO o)) → Q v (unpH H2 cs)) (fun cls d H2 => (∀ c o, cs.lookup c = some o → H2 c = some (cellHO o)) → Wx cls d (unpH H2 cs)) := by
      refine ⟨F1, r1, s1, h1', L1, R, a1, (Out.cases o1).mono (fun os s2 h2 o2 => ?_) (fun _ _ _ _ z => z.tr0 b1)⟩
      intro F2 r2 H2 L2 vs M b2 ros wi2 sh I2
      split at o2
      · rename_i os' e
        unfold pickO at e
        split at e
        · exact absurd rfl hpk
        · split at e
          · rename_i ws ew
            cases e
            exact sp_pub I2 nd hce (b1.trans0 b2).share (M := []) (ROs.shs (pickL_rws ros.shareM ew)) wi2.share o2
          · cases e
      · exact o2.elim
    refine thn (ha.run pos pins sh1 σ H1 _ I1 hq2) fun ws s2 ⟨zs, H2, I2, rz, q2⟩ => ⟨I2.kIn, ?_⟩
    rw [h3, hks]
    obtain ⟨cs, oc, sp⟩ := q2 s2 I2
    have r2 := vals_pick rz pk
    have hl : (pk.filterMap fun i => ws[i]?).length = (T j).length := by rw [← r2.length]; exact Fn.len _ _ _ _ sp
    exact run_tail (us := []) tk I2 oc (Fn.run X.A X.stack s2 (pubH H2 cs) ⟨[], ks.zip ws⟩ _ _ _ _ hr (pub_env0 I2 oc) (hb j hf s2 ws I2.kIn hl) r2 sp)
end
end Mini
set_option Elab.async false
set_option linter.all false
set_option maxRecDepth 100000
set_option maxHeartbeats 1000000
/-! Mini: displays with stars. -/
namespace Mini
open PySem L2
section
variable {G : GI} {Wx : WX} {X : Cx} {f : ME → SL → HH → R O}
/-- what a display's part is -/
def StarP (G : GI) (Wx : WX) (X : Cx) (f : ME → SL → HH → R O) : Bool × ME → Expr → Prop
  | (true, m), e => ∃ e' p, e = .Starred e' p ∧ PE X e' (TM G Wx (f m))
  | (false, m), e => PE X e (TM G Wx (f m)) ∧ plainE e = true
theorem pa_LS : ∀ {es : List (Bool × ME)} {vs : List Expr}, F2 (StarP G Wx X f) es vs → PA X vs (TMs G Wx (evLS f es))
  | _, _, .nil => pa_nil.weak fun σ H Q ⟨F, r, s, h, L, R, a, out⟩ => out F r H L [] [] a.here .nil a.wi
  | (true, m) :: es, _, .cons hd b => by
    obtain ⟨e', pp, rfl, a⟩ := hd
    have ih := pa_LS b
    refine (StX.pa_star a ih rfl).weak ?_
    rintro σ H Q ⟨F, r, s, h, L, R, a0, out⟩
    refine ⟨F, r, s, h, L, R, a0, (Out.cases (show Out ((f m s h).bind fun o s h => match starW o.toW with
      | some ws => (evLS f es s h).bind fun os s h => .ok (ws ++ os) s h
      | none => .fail) _ _ from out)).mono (fun o s1 h1 o1 => ?_) (fun _ _ _ _ z => z)⟩
    intro F1 r1 H1 L1 v M b1 ro wi1
    split at o1
    · rename_i ws ew
      have va := RW.view wi1.share ro.shareM
      have key : ∃ (p : Addr) (xs : List W) (ys : List V), v = .ref p ∧ (SqT X.K H1 p ys ∨ SqL X.K H1 p ys) ∧ ws = xs.map .sh ∧ RWs G (fun a => F1 a ∨ a ∈ M) r1 H1 xs ys := by
        unfold starW at ew
        split at ew
        · rename_i xs e2
          cases ew
          rw [e2] at va
          obtain ⟨p, ys, e3, ea, q⟩ := VW.tuple va
          exact ⟨p, xs, ys, e3, .inl (.inl (.of ea)), rfl, q⟩
        · rename_i xs e2
          cases ew
          rw [e2] at va
          obtain ⟨p, ys, e3, ea, q⟩ := VW.list va
          exact ⟨p, xs, ys, e3, .inr (.inl (.of ea)), rfl, q⟩
        · cases ew
      obtain ⟨p, xs, ys, rfl, hsq, rfl, qx⟩ := key
      refine ⟨p, ys, rfl, hsq, fun a => F1 a ∨ a ∈ M, r1, s1, h1, L1, R, b1.share.at wi1.share, (Out.cases o1).mono (fun os s2 h2 o2 => ?_) (fun _ _ _ _ z => z.tr0 b1.share)⟩
      intro F2' r2 H2 L2 vs' M2 b2 ros wi2
      exact o2 F2' r2 H2 L2 (ys ++ vs') M2 (b1.share.trans0 b2) (ROs.append (L := []) (ROs.shs (qx.mono b2.le)) ros) wi2
    · exact o1.elim
  | (false, m) :: es, _, .cons ⟨a, pl⟩ b => by
    have ih := pa_LS b
    refine (pa_cons a ih (plain_star pl)).weak ?_
    rintro σ H Q ⟨F, r, s, h, L, R, a0, out⟩
    refine ⟨F, r, s, h, L, R, a0, (Out.cases (show Out ((f m s h).bind fun o s h => (evLS f es s h).bind fun os s h => .ok (o :: os) s h) _ _ from out)).mono (fun o s1 h1 o1 => ?_) (fun _ _ _ _ z => z)⟩
    intro F1 r1 H1 L1 v M b1 ro wi1
    refine ⟨F1, r1, s1, h1, L1, M ++ R, ⟨b1.rs, wi1.perm ?_⟩, (Out.cases o1).mono (fun os s2 h2 o2 => ?_) (fun _ _ _ _ z => EK.tr b1 z)⟩
    · rw [← List.append_assoc, ← List.append_assoc]
      exact List.perm_append_comm.append_right R
    intro F2' r2 H2 L2 vs' M2 b2 ros wi2
    refine o2 F2' r2 H2 L2 (v :: vs') (M ++ M2) (b1.trans b2) (.cons (ro.mono b2.le fun x hx => b2.kp x (List.mem_append_left _ hx)) ros) (wi2.perm ?_)
    have p1 : (M2 ++ (L2 ++ (M ++ R))).Perm (M2 ++ (M ++ (L2 ++ R))) := List.Perm.append_left M2 (List.perm_append_comm_assoc ..)
    refine p1.trans ?_
    have p2 : (M2 ++ (M ++ (L2 ++ R))).Perm (M ++ (M2 ++ (L2 ++ R))) := List.perm_append_comm_assoc ..
    refine p2.trans ?_
    rw [List.append_assoc]
theorem pe_mlstS {es : List (Bool × ME)} {vs : List Expr} {pos : Pos} (ha : PA X vs (TMs G Wx (evLS f es))) : PE X (.List vs pos) (TM G Wx fun s h => (evLS f es s h).bind fun os s h => if os.length ≤ line then .ok (.lst os) s h else .fail) := by
  refine (pe_lst ha).weak ?_
  rintro σ H Q ⟨F, r, s, h, L, R, a0, out⟩
  refine ⟨F, r, s, h, L, R, a0, (Out.cases out).mono (fun os s1 h1 o1 => ?_) (fun _ _ _ _ z => z)⟩
  intro F1 r1 H1 L1 vs M b1 rr w1
  split at o1
  · rename_i hl
    refine ⟨?_, fun p hp => ?_⟩
    · rw [← rr.len, ← line_eq]
      exact hl
    have l := Le.new w1 hp (.lst vs)
    have kp : ∀ b ∈ M ++ (L1 ++ R), upd H1 p (.lst vs) b = H1 b := fun b hb => upd_ne (w1.ne hb hp)
    have b2 : Bh G F r H R σ F1 r1 (upd H1 p (.lst vs)) L1 s1 := ⟨b1.le.trans l, b1.rs.mono l fun b hb => kp b (List.mem_append_right _ (List.mem_append_left _ hb)), fun b hb => (kp b (List.mem_append_right _ (List.mem_append_right _ hb))).trans (b1.kp b hb)⟩
    exact o1 F1 r1 _ L1 (.ref p) (p :: M) b2 (.lst upd_same (rr.mono l fun b hb => kp b (List.mem_append_left _ hb))) (w1.new hp _)
  · exact o1.elim
theorem pe_mtupS {es : List (Bool × ME)} {vs : List Expr} {x1 : Nat} {pos : Pos} (ha : PA X vs (TMs G Wx (evLS f es))) : PE X (.Tuple vs x1 pos) (TM G Wx fun s h => (evLS f es s h).bind fun os s h => if os.length ≤ line then (match shs? os with
      | some ws => .ok (.sh (.tup ws)) s h
      | none => .ok (.tup os) s h) else .fail) := by
  refine (pe_tup ha).weak ?_
  rintro σ H Q ⟨F, r, s, h, L, R, a0, out⟩
  refine ⟨F, r, s, h, L, R, a0, (Out.cases out).mono (fun os s1 h1 o1 => ?_) (fun _ _ _ _ z => z)⟩
  intro F1 r1 H1 L1 vs M b1 rr w1
  split at o1
  · rename_i hl
    refine ⟨?_, fun p hp => ?_⟩
    · rw [← rr.len, ← line_eq]
      exact hl
    have l := Le.new w1 hp (.tup vs)
    have kp : ∀ b ∈ M ++ (L1 ++ R), upd H1 p (.tup vs) b = H1 b := fun b hb => upd_ne (w1.ne hb hp)
    have b2 : Bh G F r H R σ F1 r1 (upd H1 p (.tup vs)) L1 s1 := ⟨b1.le.trans l, b1.rs.mono l fun b hb => kp b (List.mem_append_right _ (List.mem_append_left _ hb)), fun b hb => (kp b (List.mem_append_right _ (List.mem_append_right _ hb))).trans (b1.kp b hb)⟩
    split at o1
    · rename_i ws e1
      obtain ⟨q, eM⟩ := ROs.ofShs rr e1
      subst eM
      exact o1 F1 r1 _ L1 (.ref p) [] b2 (.sh (.tup upd_same (q.mono l))) (w1.newT hp _)
    · exact o1 F1 r1 _ L1 (.ref p) M b2 (.tup upd_same (rr.mono l fun b hb => kp b (List.mem_append_left _ hb))) (w1.newT hp _)
  · exact o1.elim
end
end Mini
set_option Elab.async false
set_option linter.all false
set_option maxRecDepth 100000
set_option maxHeartbeats 1000000
/-! Mini: whether a text is a key of a module's own dict. -/
namespace Mini
open PySem L2
/-- a module's dict, by name; its keys -/
def KdF (mg : Str → Option Value) (K : PySem.W.Frag) (w : World) (y : Str) (ks : List Str) : Prop :=
  ∃ d es n, mg y = some (.ref d) ∧ KDict K w d es n ∧ ∀ z : Str, ∃ r, PySem.W.nsIn K d z = some r ∧ r.isSome = decide (z ∈ ks)
theorem keys_find {P : Params} (z : Str) : ∀ {l : List DictEntry} {ks : List Str}, l.map He.keyOf = He.keysIn P ks → l.any (·.refKey) = false ∧ (l.find? (·.key.isStr z)).isSome = decide (z ∈ ks)
  | [], [], _ => ⟨rfl, by simp⟩
  | [], _ :: _, h => by cases h
  | _ :: _, [], h => by cases h
  | e :: l, k :: ks, h => by
    have h1 : He.keyOf e :: l.map He.keyOf = some (k, PyData.keyHash P k) :: He.keysIn P ks := h
    injection h1 with h2 h3
    obtain ⟨i1, i2⟩ := keys_find z h3
    unfold He.keyOf at h2
    split at h2
    · rename_i x t hx
      obtain ⟨rfl, _⟩ := Prod.mk.inj (Option.some.inj h2)
      refine ⟨?_, ?_⟩
      · rw [List.any_cons, i1]
        simp [DictEntry.refKey, hx]
      · rw [List.find?_cons, hx]
        by_cases hz : x = z
        · subst hz
          simp [Value.isStr]
        · have : (Value.str x t).isStr z = false := by
            show (x == z) = false
            simpa using hz
          rw [this]
          simp only [List.mem_cons]
          rw [i2]
          have hz' : ¬ z = x := fun e => hz e.symm
          simp [hz']
    · cases h2
theorem kd_of {mg : Str → Option Value} {K : PySem.W.Frag} {w : World} {y : Str} {ks : List Str} {d : Addr} (hm : mg y = some (.ref d)) (h : He.dicW K d = some (He.keysIn w.params ks)) : KdF mg K w y ks := by
  obtain ⟨es, n, D⟩ := He.dicW_ok h
  refine ⟨d, es, n, hm, D, fun z => ?_⟩
  have hl := D.at_
  unfold He.dicW at h
  rw [hl] at h
  dsimp only at h
  split at h
  · obtain ⟨h1, h2⟩ := keys_find z (Option.some.inj h)
    unfold PySem.W.nsIn
    rw [hl]
    dsimp only
    cases e : es.toList.find? (·.key.isStr z) with
    | none =>
      rw [e] at h2
      dsimp only
      rw [h1]
      exact ⟨none, rfl, h2⟩
    | some v =>
      rw [e] at h2
      exact ⟨some v.val, rfl, h2⟩
  · cases h
section
variable {G : GI} {Wx : WX} {X : Cx} {f : ME → SL → HH → R O}
theorem mem_strs (z : List Nat) (ks : List (List Nat)) : decide ((⟨z.toArray⟩ : Str) ∈ ks.map fun k => (⟨k.toArray⟩ : Str)) = ks.contains z := by
  rw [Bool.eq_iff_iff, decide_eq_true_eq, List.contains_iff_mem, List.mem_map]
  refine ⟨fun ⟨k, hk, e⟩ => ?_, fun h => ⟨z, h, rfl⟩⟩
  have e1 : k.toArray = z.toArray := by injection e
  have e2 : k = z := by
    have := congrArg Array.toList e1
    simpa using this
  exact e2 ▸ hk
theorem pe_mkin {m : ME} {e : Expr} {y : Str} {ks : List (List Nat)} {p pos : Pos} (ne : Bool) (kd : KdF X.mg X.K X.w y (ks.map fun k => ⟨k.toArray⟩)) (hg : Gl X y) (hd : (y == ("__debug__" : Str)) = false) (he : PE X e (TMd G Wx (evD f m))) :
    PE X (.Compare e [if ne then .NotIn else .In] [.Name y p] pos) (TM G Wx fun s h => (ev1 f m s h).bind fun w s h => match w with
      | .str z => .ok (.sh (.bl (if ne then !ks.contains z else ks.contains z))) s h
      | _ => .fail) := by
  obtain ⟨d, es, n, hm, D, hk⟩ := kd
  have hn : PE X (.Name y p) (tC (.ref d)) := pe_glob hg hm rfl hd
  have go : ∀ σ H Q, TM G Wx (fun s h => (ev1 f m s h).bind fun w s h => match w with
      | .str z => .ok (.sh (.bl (if ne then !ks.contains z else ks.contains z))) s h
      | _ => .fail) σ H Q → TMd G Wx (evD f m) σ H fun v H1 => ∃ (z : Str) (r : Option Value), v = .str z ∧ V.ref d = .ref d ∧ PySem.W.nsIn X.K d z = some r ∧ Q (.bl (if ne then !r.isSome else r.isSome)) H1 := by
    refine w_ev1 (α := O) (t1 := fun v H1 Q => ∃ (z : Str) (r : Option Value), v = .str z ∧ V.ref d = .ref d ∧ PySem.W.nsIn X.K d z = some r ∧ Q (.bl (if ne then !r.isSome else r.isSome)) H1) fun σ F r H h R s L x v Q a va out => ?_
    split at out
    · rename_i z
      obtain ⟨q, q1, q2⟩ := hk ⟨z.toArray⟩
      refine ⟨_, q, va.str, rfl, q1, ?_⟩
      rw [q2, mem_strs]
      exact out F r H L _ [] a.here (.sh (.bl _)) a.wi
    · exact out.elim
  cases ne with
  | true => exact (pe_cmpR (op_notIn_kd D) he hn rfl).weak go
  | false => exact (pe_cmpR (op_in_kd D) he hn rfl).weak go
theorem pt_mkin {m : ME} {e : Expr} {y : Str} {ks : List (List Nat)} {p pos : Pos} (ne : Bool) (kd : KdF X.mg X.K X.w y (ks.map fun k => ⟨k.toArray⟩)) (hg : Gl X y) (hd : (y == ("__debug__" : Str)) = false) (he : PE X e (TMd G Wx (evD f m))) :
    PT X (.Compare e [if ne then .NotIn else .In] [.Name y p] pos) (TMt G Wx fun s h => (ev1 f m s h).bind fun w s h => match w with
      | .str z => .ok (if ne then !ks.contains z else ks.contains z) s h
      | _ => .fail) := by
  obtain ⟨d, es, n, hm, D, hk⟩ := kd
  have hn : PE X (.Name y p) (tC (.ref d)) := pe_glob hg hm rfl hd
  have go : ∀ σ H (Q : Bool → Hp → Prop), TMt G Wx (fun s h => (ev1 f m s h).bind fun w s h => match w with
      | .str z => .ok (if ne then !ks.contains z else ks.contains z) s h
      | _ => .fail) σ H Q → TMd G Wx (evD f m) σ H fun v H1 => ∃ (z : Str) (r : Option Value), v = .str z ∧ V.ref d = .ref d ∧ PySem.W.nsIn X.K d z = some r ∧ ∃ k, V.bl (if ne then !r.isSome else r.isSome) = .bl k ∧ Q k H1 := by
    refine w_ev1T (t1 := fun v H1 Q => ∃ (z : Str) (r : Option Value), v = .str z ∧ V.ref d = .ref d ∧ PySem.W.nsIn X.K d z = some r ∧ ∃ k, V.bl (if ne then !r.isSome else r.isSome) = .bl k ∧ Q k H1) fun σ F r H h R s L x v Q a va out => ?_
    split at out
    · rename_i z
      obtain ⟨q, q1, q2⟩ := hk ⟨z.toArray⟩
      refine ⟨_, q, va.str, rfl, q1, _, rfl, ?_⟩
      rw [q2, mem_strs]
      exact out F r H L a.here a.wi
    · exact out.elim
  cases ne with
  | true => exact (pt_cmpR (op_notIn_kd D) he hn rfl).weak go
  | false => exact (pt_cmpR (op_in_kd D) he hn rfl).weak go
end
end Mini
set_option Elab.async false
set_option linter.all false
set_option maxRecDepth 100000
set_option maxHeartbeats 1000000
/-! Mini: the checker of expressions, and that it tells the truth. -/
namespace Mini
open PySem L2
def nameOk (N : List Str) (sc : Scope) (i : Nat) (x : Str) : Bool := slotN N i x && isVis sc x && nmOk x
def isNm0 (N : List Str) (sc : Scope) (i : Nat) : Expr → Bool
  | .Name x _ => nameOk N sc i x
  | _ => false
def tgOk (own : List Nat) : Tg → Bool
  | .one i => own.contains i
  | .many is => is.all own.contains
  | .skip => false
def isNm (N : List Str) (sc : Scope) (fz : Str → Bool) (i : Nat) (e : Expr) : Bool := match e with
  | .Name x _ => slotN N i x && isLoc sc x && (fz x || decide (sc.names.lookup x = some .local))
  | _ => false
def chkTgt (N : List Str) (sc : Scope) (fz : Str → Bool) (tg : Tg) (e : Expr) : Bool := match tg with
  | .one i => isNm N sc fz i e
  | .many is => (match e with
    | .Tuple es _ _ => all2 (isNm N sc fz) is es
    | _ => false)
  | .skip => false
def owN (N : List Str) (own : List Nat) : List (Str × Nat) := own.map fun i => (N.getD i "", i)
def chkO {α β : Type} (f : α → β → Bool) : Option α → Option β → Bool
  | none, none => true
  | some a, some b => f a b
  | _, _ => false
def chkIfs {α β : Type} (f : α → β → Bool) : Option α → List β → Bool
  | none, [] => true
  | some a, [b] => f a b
  | _, _ => false
def chkIt (T : Tb) (sc : Scope) (f : ME → Expr → Bool) (it : IT) (tg e : Expr) : Bool := match it with
  | .seq a => f a e
  | .rng1 a => (match e with
    | .Call (.Name x _) [ea] [] _ => isGlB T sc x "range" && f a ea
    | _ => false)
  | .rng2 a b => (match e with
    | .Call (.Name x _) [ea, eb] [] _ => isGlB T sc x "range" && (f a ea && f b eb)
    | _ => false)
  | .rng3 a b c => (match e with
    | .Call (.Name x _) [ea, eb, ec] [] _ => isGlB T sc x "range" && (f a ea && (f b eb && f c ec))
    | _ => false)
  | .enum a => (match tg with
    | .Tuple _ _ _ => (match e with
      | .Call (.Name x _) [ea] [] _ => isGlB T sc x "enumerate" && f a ea
      | _ => false)
    | _ => false)
  | .zip a b => (match tg with
    | .Tuple _ _ _ => (match e with
      | .Call (.Name x _) [ea, eb] [] _ => isGlB T sc x "zip" && (f a ea && f b eb)
      | _ => false)
    | _ => false)
/-- the slot's name is of the kind there -/
def inScope (N : List Str) (scope : Scope) (k : NameKind) (i : Nat) : Bool := match N[i]? with
  | some x => decide (scope.names.lookup x = some k)
  | none => false
def chkStar (f : ME → Expr → Bool) : Bool × ME → Expr → Bool
  | (true, m), .Starred e _ => f m e
  | (true, _), _ => false
  | (false, m), e => f m e
mutual
def chkE (T : Tb) (N : List Str) : Nat → Scope → ME → Expr → Bool
  | 0, _, _, _ => false
  | n + 1, sc, m, e => plainE e && (match m with
    | .cst w => (match e with
      | .Constant c _ _ => cstOk w c
      | _ => false)
    | .var i => (match e with
      | .Name x _ => nameOk N sc i x
      | _ => false)
    | .mv i => (match e with
      | .Name x _ => nameOk N sc i x
      | _ => false)
    | .fn j => (match e with
      | .Name x _ => isGlF T sc x j
      | _ => false)
    | .bin op a b => (match e with
      | .BinOp ea o eb _ => bopOk op o && (chkE T N n sc a ea && chkE T N n sc b eb)
      | _ => false)
    | .neg a => (match e with
      | .UnaryOp .USub ea _ => chkE T N n sc a ea
      | _ => false)
    | .not_ a => (match e with
      | .UnaryOp .Not ea _ => chkE T N n sc a ea
      | _ => false)
    | .cmp op a b => (match e with
      | .Compare ea [o] [eb] _ => copOk op o && (chkE T N n sc a ea && chkE T N n sc b eb)
      | _ => false)
    | .cmp2 op op' a b c => (match e with
      | .Compare ea [o, o'] [eb, ec] _ => copOk op o && (copOk op' o' && (chkE T N n sc a ea && (chkE T N n sc b eb && chkE T N n sc c ec)))
      | _ => false)
    | .isn ne a => (match e with
      | .Compare ea [o] [.Constant .none _ _] _ => decide (o = if ne then .IsNot else .Is) && chkE T N n sc a ea
      | _ => false)
    | .isb ne b a => (match e with
      | .Compare ea [o] [.Constant (.bool c) _ _] _ => decide (o = if ne then .IsNot else .Is) && (decide (b = c) && chkE T N n sc a ea)
      | _ => false)
    | .and_ es => (match e with
      | .BoolOp .And vs _ => !es.isEmpty && all2 (chkE T N n sc) es vs
      | _ => false)
    | .or_ es => (match e with
      | .BoolOp .Or vs _ => !es.isEmpty && all2 (chkE T N n sc) es vs
      | _ => false)
    | .ite c a b => (match e with
      | .IfExp ec ea eb _ => chkT T N n sc c ec && (chkE T N n sc a ea && chkE T N n sc b eb)
      | _ => false)
    | .tup es => (match e with
      | .Tuple vs _ _ => decide (es.length ≤ 1000) && all2 (chkE T N n sc) es vs
      | _ => false)
    | .lst es => (match e with
      | .List vs _ => decide (es.length ≤ 1000) && all2 (chkE T N n sc) es vs
      | _ => false)
    | .lstS es => (match e with
      | .List vs _ => all2 (chkStar (chkE T N n sc)) es vs
      | _ => false)
    | .tupS es => (match e with
      | .Tuple vs _ _ => all2 (chkStar (chkE T N n sc)) es vs
      | _ => false)
    | .dnew _ => (match e with
      | .Dict [] [] _ => true
      | _ => false)
    | .idx a b => (match e with
      | .Subscript ea eb _ => chkE T N n sc a ea && chkE T N n sc b eb
      | _ => false)
    | .slc a lo hi => (match e with
      | .Subscript ea (.Slice l u none _) _ => chkE T N n sc a ea && (chkO (chkE T N n sc) lo l && chkO (chkE T N n sc) hi u)
      | _ => false)
    | .rev a => (match e with
      | .Subscript ea (.Slice none none (some (.UnaryOp .USub (.Constant (.int 1) _ _) _)) _) _ => chkE T N n sc a ea
      | _ => false)
    | .call j es pk => (match e with
      | .Call (.Name x _) args kws _ => isGlF T sc x j && (match pk, kws with
        | [], [] => decide (es.length = args.length) && all2 (chkE T N n sc) es args
        | i :: is, k :: ks => (match args with
          | [] => (k :: ks).all (·.arg.isSome) && (T.pats.contains (j, i :: is, (k :: ks).filterMap (·.arg)) && all2 (fun m (k : Keyword) => chkE T N n sc m k.value) es (k :: ks))
          | _ => false)
        | _, _ => false)
      | _ => false)
    | .lset a => (match e with
      | .Call (.Name x _) [.Call (.Name y _) [ea] [] _] [] _ => isGlB T sc x "len" && (isGlB T sc y "set" && chkE T N n sc a ea)
      | _ => false)
    | .bi b es => (match e with
      | .Call (.Name x _) (ea :: args) [] _ => isGlB T sc x (biNm b) && (biOk b && all2 (chkE T N n sc) es (ea :: args))
      | _ => false)
    | .isty ts a => (match e with
      | .Call (.Name x _) [ea, ey] [] _ => isGlB T sc x "isinstance" && (chkE T N n sc a ea && (match ey with
        | .Tuple ys _ _ => decide (ts.length ≤ 1000) && all2 (fun t y => (match y with
          | .Name x _ => isGlB T sc x (tnm t)
          | _ => false)) ts ys
        | .Name x _ => (match ts with
          | [t] => isGlB T sc x (tnm t)
          | _ => false)
        | _ => false))
      | _ => false)
    | .pop o => (match e with
      | .Call (.Attribute eo x ap) [] [] cp => decide (x = ("pop" : Str)) && (noCall0 eo && ((ap.endLine == cp.line) && chkE T N n sc o eo))
      | _ => false)
    | .popi o i => (match e with
      | .Call (.Attribute eo x ap) [ei] [] cp => decide (x = ("pop" : Str)) && (noCall0 eo && ((ap.endLine == cp.line) && (chkE T N n sc o eo && chkE T N n sc i ei)))
      | _ => false)
    | .index a b => (match e with
      | .Call (.Attribute eo x ap) [ei] [] cp => decide (x = ("index" : Str)) && (noCall0 eo && ((ap.endLine == cp.line) && (chkE T N n sc a eo && chkE T N n sc b ei)))
      | _ => false)
    | .getd a b c => (match e with
      | .Call (.Attribute eo x ap) [ei, ec] [] cp => decide (x = ("get" : Str)) && (noCall0 eo && ((ap.endLine == cp.line) && (chkE T N n sc a eo && (chkE T N n sc b ei && chkE T N n sc c ec))))
      | _ => false)
    | .comp own tg it ifs elt => (match e with
      | .ListComp eelt [⟨etg, eit, eifs, 0⟩] scope _ => (blkC N sc scope (owN N own) && (decide own.Nodup && (tgOk own tg && (chkTgt N (relS scope sc) (fun x => scope.names.lookup x == some .cell) tg etg && (plainE eit && (chkIt T sc (chkE T N n sc) it etg eit &&
          (chkIfs (chkT T.no N n (relS scope sc)) ifs eifs && chkE T.no N n (relS scope sc) elt eelt)))))))
      | _ => false)
    | .dcomp own t tg it ifs k v => (match e with
      | .DictComp ekx evx [⟨etg, eit, eifs, 0⟩] scope _ => (blkC N sc scope (owN N own) && (decide own.Nodup && (tgOk own tg && (chkTgt N (relS scope sc) (fun x => scope.names.lookup x == some .cell) tg etg && (plainE eit && (chkIt T sc (chkE T N n sc) it etg eit &&
          (chkIfs (chkT T.no N n (relS scope sc)) ifs eifs && (chkE T.no N n (relS scope sc) k ekx && chkE T.no N n (relS scope sc) v evx))))))))
      | _ => false)
    | .compX own tg it ifs elt fr oc => (match e with
      | .ListComp eelt [⟨etg, eit, eifs, 0⟩] scope _ => (blkC N sc scope (owN N own) && (decide own.Nodup && (tgOk own tg && (chkTgt N (relS scope sc) (fun x => scope.names.lookup x == some .cell) tg etg && (plainE eit && (chkIt T sc (chkE T N n sc) it etg eit &&
          (chkIfs (chkT T.no N n (relS scope sc)) ifs eifs && (chkE T N n (relS scope sc) elt eelt && (fr.all (inScope N scope .free) && oc.all (inScope N scope .cell))))))))))
      | _ => false)
    | .lam l is => T.lc sc N l is e
    | .callv g es => (match e with
      | .Call fe args [] _ => callFn fe && (decide (es.length = args.length) && (chkE T N n sc g fe && all2 (chkE T N n sc) es args))
      | _ => false)
    | .callvK g es kw fs => (match e with
      | .Call fe [] (k :: ks) _ => callFn fe && (chkE T N n sc g fe && (!kw.isEmpty && ((k :: ks).all (·.arg.isSome) && (fs.all (fun j => T.pats.contains (j, kw, (k :: ks).filterMap (·.arg))) && all2 (fun m (k : Keyword) => chkE T N n sc m k.value) es (k :: ks)))))
      | _ => false)
    | .prom a => chkE T N n sc a e
    | .lrng a => (match e with
      | .Call (.Name x _) [.Call (.Name y _) [ea] [] _] [] _ => isGlB T sc x "list" && (isGlB T sc y "range" && chkE T N n sc a ea)
      | _ => false)
    | .lrng2 a b => (match e with
      | .Call (.Name x _) [.Call (.Name y _) [ea, eb] [] _] [] _ => isGlB T sc x "list" && (isGlB T sc y "range" && (chkE T N n sc a ea && chkE T N n sc b eb))
      | _ => false)
    | .kin ne a ks => (match e with
      | .Compare ea [op] [.Name y _] _ => isGl sc y && (nmOk y && (T.kds.any (fun p => decide (p.1 = y) && decide (p.2 = ks.map fun k => (⟨k.toArray⟩ : Str))) && (decide (op = (if ne then .NotIn else .In)) && chkE T N n sc a ea)))
      | _ => false)
    | .mrk _ a => chkE T N n sc a e
    | .shr a => chkE T N n sc a e
    | .btup a => (match e with
      | .Call (.Name x _) [ea] [] _ => isGlB T sc x "tuple" && chkE T N n sc a ea
      | _ => false)
    | .bcall j is => (match e with
      | .Call (.Name x _) args [] _ => isGlF T sc x j && (!args.isEmpty && all2 (isNm0 N sc) is args)
      | _ => false)
    | .items a => (match e with
      | .Call (.Name x _) [.Call (.Attribute ea m ap) [] [] cp] [] _ => isGlB T sc x "list" && (decide (m = ("items" : Str)) && (noCall0 ea && ((ap.endLine == cp.line) && chkE T N n sc a ea)))
      | _ => false)
    | _ => false)
def chkT (T : Tb) (N : List Str) : Nat → Scope → ME → Expr → Bool
  | 0, _, _, _ => false
  | n + 1, sc, m, e => match m with
    | .not_ a => (match e with
      | .UnaryOp .Not ea _ => chkT T N n sc a ea
      | _ => false)
    | .and_ es => (match e with
      | .BoolOp .And vs _ => !es.isEmpty && all2 (chkT T N n sc) es vs
      | _ => false)
    | .or_ es => (match e with
      | .BoolOp .Or vs _ => !es.isEmpty && all2 (chkT T N n sc) es vs
      | _ => false)
    | .cmp op a b => (match e with
      | .Compare ea [o] [eb] _ => copOk op o && (chkE T N n sc a ea && chkE T N n sc b eb)
      | _ => false)
    | .cmp2 op op' a b c => (match e with
      | .Compare ea [o, o'] [eb, ec] _ => copOk op o && (copOk op' o' && (chkE T N n sc a ea && (chkE T N n sc b eb && chkE T N n sc c ec)))
      | _ => false)
    | .isn ne a => (match e with
      | .Compare ea [o] [.Constant .none _ _] _ => decide (o = if ne then .IsNot else .Is) && chkE T N n sc a ea
      | _ => false)
    | .isb ne b a => (match e with
      | .Compare ea [o] [.Constant (.bool c) _ _] _ => decide (o = if ne then .IsNot else .Is) && (decide (b = c) && chkE T N n sc a ea)
      | _ => false)
    | .ite _ _ _ => false
    | .kin ne a ks => (match e with
      | .Compare ea [op] [.Name y _] _ => isGl sc y && (nmOk y && (T.kds.any (fun p => decide (p.1 = y) && decide (p.2 = ks.map fun k => (⟨k.toArray⟩ : Str))) && (decide (op = (if ne then .NotIn else .In)) && chkE T N n sc a ea)))
      | _ => false)
    | m => chkE T N n sc m e && (match e with
      | .UnaryOp .Not _ _ => false
      | .BoolOp _ _ _ => false
      | .IfExp _ _ _ _ => false
      | .Compare _ _ _ _ => false
      | _ => true)
end
/-- what is known where code runs -/
structure CtxE (G : GI) (T : Tb) (cf : CF) (k : Nat) (ce : List (Option Nat)) (X : Cx) (Wx : WX) : Prop where
  hK : X.K = G.K
  calm : X.calm = true
  nd : X.N.Nodup
  room : Room k X.A
  blt : ∀ x, T.blt.contains x = true → X.mg x = none
  fns : ∀ x j, T.fns.lookup x = some j → X.mg x = some (.ref (G.fa j)) ∧ G.fok j
  fnk : ∀ j, G.fok j → PySem.W.keepIn X.K (.ref (G.fa j)) = true ∧ Binds X.K (G.fd j) (T.ps.getD j []) [] ∧ FnOk X.prog X.w X.K X.mg X.base (L2.CX X.prog X.w) k (G.fa j) (G.fd j) (T.ps.getD j []) (SpF G.toGS cf (.fn j))
  clo : ClOk X.prog X.w X.K X.mg X.base G.toGS cf k
  lcx : (∀ sc N l is e, T.lc sc N l is e = false) ∨ ∃ fd, TabOk G.toGS X.mg X.base X.env.qual fd ∧ X.env.code = fd.code ∧ ∀ sc N l is e, T.lc sc N l is e = true → LcOk G.toGS sc N l is e
  pats : ∀ p ∈ T.pats, KwOk X.K (G.fd p.1) (T.ps.getD p.1 []) p.2.2 p.2.1
  tk : Takes X (fun c d _ H => Wx c d H)
  ce : CeOk X G ce
  sl : SealOk G.toGS cf
  spl : ∀ j, T.spl.contains j = true → G.spl j
  kds : ∀ p ∈ T.kds, KdF X.mg X.K X.w p.1 p.2
section
variable {G : GI} {T : Tb} {cf : CF} {k : Nat} {ce : List (Option Nat)} {Wx : WX} {X : Cx}
theorem rel_lookup {scope sc : Scope} {x : Str} (h : (scope.names.lookup x).isSome = true) : ((relS scope sc).names.lookup x).isSome = true := by
  have : ∀ (l : List (Str × NameKind)) (f : Str → NameKind → NameKind), (l.lookup x).isSome = true → ((l.map fun (n, k) => (n, f n k)).lookup x).isSome = true := by
    intro l f
    induction l with
    | nil => intro h; cases h
    | cons p l ih =>
      obtain ⟨n, k⟩ := p
      intro h
      simp only [List.map_cons, List.lookup] at h ⊢
      cases e : x == n with
      | true => rfl
      | false =>
        rw [e] at h
        exact ih h
  have e : (relS scope sc).names = scope.names.map fun (n, k) => (n, if (k == .free && sc.kind == .function && sc.names.lookup n == some .cell) then .cell else k) := by
    unfold relS
    dsimp only
    congr 1
    funext p
    obtain ⟨n, k⟩ := p
    dsimp only
    split <;> rfl
  rw [e]
  exact this _ (fun n k => if (k == .free && sc.kind == .function && sc.names.lookup n == some .cell) then .cell else k) h
theorem CtxE.no (C : CtxE G T cf k ce X Wx) : CtxE G T.no cf k ce X Wx := ⟨C.hK, C.calm, C.nd, C.room, C.blt, C.fns, C.fnk, C.clo, .inl fun _ _ _ _ _ => rfl, C.pats, C.tk, C.ce, C.sl, C.spl, C.kds⟩
theorem CtxE.lcok (C : CtxE G T cf k ce X Wx) (l : Nat) (is : List Nat) (e : Expr) (h : T.lc X.env.scope X.N l is e = true) : PE X e (TM G Wx fun s h => match celsOf ce is with
      | some cs => .ok (.sh (.clo l cs)) s h
      | none => .fail) := by
  rcases C.lcx with z | ⟨fd, ht, ec, lc⟩
  · rw [z] at h; cases h
  · exact lc_pe C.ce ht ec (lc _ _ _ _ _ h)
theorem CtxE.blk (C : CtxE G T cf k ce X Wx) (s : Shared) (H : Hp) (scope : Scope) (cl : List (Str × Addr)) (A : Addr) (fp : List Addr) : CtxE G T.no cf k [] (X.blk s H scope (compEnvC scope cl A X.env) fp) W0 :=
  ⟨C.hK, C.calm, C.nd, C.room, C.blt, C.fns, C.fnk, C.clo, .inl fun _ _ _ _ _ => rfl, C.pats, LamX.takes0, (fun i j e => by simp at e), C.sl, C.spl, C.kds⟩
/-- in a block that has cells of its own -/
theorem CtxE.blkO (C : CtxE G T cf k ce X Wx) (s : Shared) (H : Hp) (scope : Scope) (cl : List (Str × Addr)) (A : Addr) (fp : List Addr) {o : List (Nat × Addr)} {ce' : List (Option Nat)} (hce : CeOk (X.blk s H scope (compEnvC scope cl A X.env) fp) ⟨G.toGS, o⟩ ce') :
    CtxE ⟨G.toGS, o⟩ T cf k ce' (X.blk s H scope (compEnvC scope cl A X.env) fp) W0 :=
  ⟨C.hK, C.calm, C.nd, C.room, C.blt, C.fns, C.fnk, C.clo, C.lcx, C.pats, LamX.takes0, hce, C.sl, C.spl, C.kds⟩
theorem inScope_ok {N : List Str} {scope : Scope} {k : NameKind} {i : Nat} (h : inScope N scope k i = true) : ∃ x, N[i]? = some x ∧ scope.names.lookup x = some k := by
  unfold inScope at h
  split at h
  · exact ⟨_, by assumption, of_decide_eq_true h⟩
  · cases h
theorem nmOk_ok {x : Str} (h : nmOk x = true) : (x == ("__debug__" : Str)) = false ∧ (x == ("__classdict__" : Str)) = false ∧ x ≠ "__name__" := by
  unfold nmOk at h
  simp only [Bool.and_eq_true, Bool.not_eq_true', decide_eq_false_iff_not] at h
  exact ⟨h.1.1, h.1.2, h.2⟩
theorem slotN_ok {N : List Str} {i : Nat} {x : Str} (h : slotN N i x = true) : N[i]? = some x := by
  unfold slotN at h
  split at h
  · rename_i y e
    rw [e, of_decide_eq_true h]
  · cases h
theorem isVis_ok {sc : Scope} {x : Str} (h : isVis sc x = true) : Vis sc x := by
  unfold isVis at h
  split at h
  · exact .inl (by assumption)
  · exact .inr (.inl (by assumption))
  · exact .inr (.inr (by assumption))
  · cases h
theorem isLoc_ok {sc : Scope} {x : Str} (h : isLoc sc x = true) : Loc sc x := by
  unfold isLoc at h
  split at h
  · exact .inl (by assumption)
  · exact .inr (by assumption)
  · cases h
theorem isGl_ok {x : Str} (h : isGl X.env.scope x = true) : Gl X x := by
  unfold isGl at h
  split at h
  · rename_i e; exact e
  · cases h
theorem name_pe {i : Nat} {x : Str} {pos : Pos} (h : nameOk X.N X.env.scope i x = true) : PE X (.Name x pos) (tVar i) := by
  unfold nameOk at h
  simp only [Bool.and_eq_true] at h
  obtain ⟨h1, h2, _⟩ := nmOk_ok h.2
  exact pe_var (slotN_ok h.1.1) (isVis_ok h.1.2) h1 h2
theorem isNm0_ok {i : Nat} {e : Expr} (h : isNm0 X.N X.env.scope i e = true) : PE X e (tVar i) ∧ plainE e = true := by
  unfold isNm0 at h
  split at h
  · exact ⟨name_pe h, rfl⟩
  · cases h
theorem glB_ok (C : CtxE G T cf k ce X Wx) {x y : Str} (h : isGlB T X.env.scope x y = true) : x = y ∧ Gl X x ∧ X.mg x = none ∧ nmOk x = true := by
  unfold isGlB at h
  simp only [Bool.and_eq_true, decide_eq_true_eq] at h
  exact ⟨h.1.1.1, isGl_ok h.1.1.2, C.blt _ h.1.2, h.2⟩
theorem glF_ok {x : Str} {j : Nat} (h : isGlF T X.env.scope x j = true) : Gl X x ∧ T.fns.lookup x = some j ∧ nmOk x = true := by
  unfold isGlF at h
  simp only [Bool.and_eq_true, decide_eq_true_eq] at h
  exact ⟨isGl_ok h.1.1, h.1.2, h.2⟩
theorem bop_ok {op : BOp} {o : Operator} (h : bopOk op o = true) : OpR X (binaryOp o) (rBin G op) := by
  cases op <;> cases o <;> first | cases h | skip
  · exact op_bin_add
  · exact op_bin_sub
  · exact op_bin_mul
  · exact op_bin_fdiv
  · exact op_bin_mod
  · exact op_bin_pow
theorem cop_ok (C : CtxE G T cf k ce X Wx) {op : COp} {o : CmpOp} (h : copOk op o = true) : OpR X (compareOp o) (rCmp G (cmpD op)) := by
  have hu := C.room.un
  have hsame : ∀ {g : W → W → Option Bool} {op : COp}, (∀ x y, cmpD op x y = g x y) → cmpD op = g := fun h => funext fun x => funext fun y => h x y
  cases op <;> cases o <;> first | cases h | skip
  · rw [hsame (g := eqC) fun x y => by cases y <;> rfl]; exact op_cmp_eq C.hK (by omega)
  · rw [hsame (g := neC) fun x y => by cases y <;> rfl]; exact op_cmp_ne C.hK (by omega)
  · rw [hsame (g := ltW) fun x y => by cases y <;> rfl]; exact op_cmp_lt C.hK (by omega)
  · rw [hsame (g := leC) fun x y => by cases y <;> rfl]; exact op_cmp_le
  · rw [hsame (g := gtC) fun x y => by cases y <;> rfl]; exact op_cmp_gt
  · rw [hsame (g := geC) fun x y => by cases y <;> rfl]; exact op_cmp_ge
  · exact op_cmp_in C.hK (by omega)
  · exact op_cmp_notin C.hK (by omega)
theorem isNm_pg (nd : X.N.Nodup) {fz : Str → Bool} (hz : ∀ x, fz x = true → X.fn x = true) {i : Nat} {e : Expr} (h : isNm X.N X.env.scope fz i e = true) : PG X e (gName i) := by
  unfold isNm at h
  split at h
  · simp only [Bool.and_eq_true, Bool.or_eq_true, decide_eq_true_eq] at h
    exact pg_name nd (slotN_ok h.1.1) (isLoc_ok h.1.2) (h.2.imp (hz _) id)
  · cases h
theorem isNms_pg (nd : X.N.Nodup) {fz : Str → Bool} (hz : ∀ x, fz x = true → X.fn x = true) : ∀ {is : List Nat} {es : List Expr}, all2 (isNm X.N X.env.scope fz) is es = true → PGs X es (gMany is) ∧ (assignEach es X.env).length = is.length ∧ (assignEach es X.env).findIdx? (·.1) = none
  | [], [], _ => ⟨pgs_nil, rfl, rfl⟩
  | i :: is, e :: es, h => by
    simp only [all2, Bool.and_eq_true] at h
    obtain ⟨h1, h2, h3⟩ := isNms_pg nd hz h.2
    have pe := isNm_pg nd hz h.1
    have he : ∃ x p, e = .Name x p := by
      have := h.1
      unfold isNm at this
      split at this
      · exact ⟨_, _, rfl⟩
      · cases this
    obtain ⟨x, p, rfl⟩ := he
    refine ⟨pgs_cons pe h1, by rw [List.length_cons, ← h2]; rfl, ?_⟩
    show (List.findIdx? (·.1) ((false, _) :: assignEach es X.env)) = none
    rw [List.findIdx?_cons]
    simp [h3]
  | [], _ :: _, h => by cases h
  | _ :: _, [], h => by cases h
theorem chkTgt_pg (hc : X.calm = true) (nd : X.N.Nodup) {fz : Str → Bool} (hz : ∀ x, fz x = true → X.fn x = true) {tg : Tg} {e : Expr} (h : chkTgt X.N X.env.scope fz tg e = true) : PG X e (gTg X.K tg) ∧ tg ≠ .skip := by
  cases tg with
  | one i => exact ⟨isNm_pg nd hz h, by simp⟩
  | many is =>
    unfold chkTgt at h
    dsimp only at h
    split at h
    · obtain ⟨h1, h2, h3⟩ := isNms_pg nd hz h
      exact ⟨pg_tup hc h1 h2 h3, by simp⟩
    · cases h
  | skip => cases h
theorem tgOk_ok {own : List Nat} {tg : Tg} (h : tgOk own tg = true) : ∀ i ∈ tgIds tg, i ∈ own := by
  cases tg with
  | one i =>
    intro j hj
    rcases List.mem_singleton.mp hj with rfl
    exact List.contains_iff_mem.mp h
  | many is =>
    intro j hj
    have := List.all_eq_true.mp h j hj
    exact List.contains_iff_mem.mp this
  | skip => cases h
theorem ow_snd (N : List Str) (own : List Nat) : (owN N own).map (·.2) = own := by
  unfold owN
  rw [List.map_map]
  exact List.map_id'' (fun _ => rfl) own
theorem cst_bool {b c : Bool} (h : (b == c) = true) : b = c := by cases b <;> cases c <;> first | rfl | cases h
theorem chk_plain {n : Nat} {sc : Scope} {m : ME} {e : Expr} {N : List Str} (h : chkE T N n sc m e = true) : plainE e = true := by
  cases n with
  | zero => cases h
  | succ n =>
    unfold chkE at h
    rw [Bool.and_eq_true] at h
    exact h.1
theorem chk_var {n i : Nat} {e : Expr} (h : chkE T X.N n X.env.scope (.var i) e = true) : PE X e (tVar i) := by
  cases n with
  | zero => cases h
  | succ n =>
    unfold chkE at h
    rw [Bool.and_eq_true] at h
    replace h := h.2
    dsimp only at h
    split at h
    · exact name_pe h
    · cases h
end
end Mini
set_option Elab.async false
set_option linter.all false
set_option maxRecDepth 100000
set_option maxHeartbeats 1000000
/-! Mini: what the checker lets through is what the text computes. -/
namespace Mini
open PySem L2
theorem all2_imp {α β : Type} {f : α → β → Bool} {p : α → β → Prop} : ∀ {as : List α} {bs : List β}, all2 f as bs = true → (∀ a b, f a b = true → p a b) → F2 p as bs
  | [], [], _, _ => .nil
  | a :: as, b :: bs, e, hp => by
    simp only [all2, Bool.and_eq_true] at e
    exact .cons (hp _ _ e.1) (all2_imp e.2 hp)
  | [], _ :: _, e, _ => by cases e
  | _ :: _, [], e, _ => by cases e
theorem ne_nil {α : Type} {l : List α} (h : (!l.isEmpty) = true) : l ≠ [] := by cases l <;> first | (simp at h; done) | simp
section
variable {G : GI} {T : Tb} {cf : CF} {k : Nat}
def SndE (cf : CF) (k n : Nat) : Prop := ∀ {G : GI} {T : Tb} (X : Cx) (Wx : WX) (ce : List (Option Nat)) (m : ME) (e : Expr), CtxE G T cf k ce X Wx → chkE T X.N n X.env.scope m e = true → PE X e (TM G Wx (evE cf ce n m))
def SndT (cf : CF) (k n : Nat) : Prop := ∀ {G : GI} {T : Tb} (X : Cx) (Wx : WX) (ce : List (Option Nat)) (m : ME) (e : Expr), CtxE G T cf k ce X Wx → chkT T X.N n X.env.scope m e = true → PT X e (TMt G Wx (evT cf ce n m))
variable {n : Nat}
theorem SndE.d (ih : SndE cf k n) {X : Cx} {Wx : WX} {ce : List (Option Nat)} (C : CtxE G T cf k ce X Wx) {m : ME} {e : Expr} (h : chkE T X.N n X.env.scope m e = true) : PE X e (TMd G Wx (evD (evE cf ce n) m)) :=
  pe_d (ih X Wx ce m e C h) fun i em => by subst em; exact chk_var h
theorem SndE.p (ih : SndE cf k n) {X : Cx} {Wx : WX} {ce : List (Option Nat)} (C : CtxE G T cf k ce X Wx) {m : ME} {e : Expr} (h : chkE T X.N n X.env.scope m e = true) : PE X e (TMp G Wx (evP (evE cf ce n) m)) :=
  pe_p (ih X Wx ce m e C h) fun i em => by subst em; exact chk_var h
theorem SndE.L (ih : SndE cf k n) {X : Cx} {Wx : WX} {ce : List (Option Nat)} (C : CtxE G T cf k ce X Wx) {ms : List ME} {es : List Expr} (h : all2 (chkE T X.N n X.env.scope) ms es = true) : PA X es (TMs G Wx (evL (evE cf ce n) ms)) :=
  pa_L (all2_imp h fun m e he => ⟨ih X Wx ce m e C he, chk_plain he⟩)
theorem SndE.D (ih : SndE cf k n) {X : Cx} {Wx : WX} {ce : List (Option Nat)} (C : CtxE G T cf k ce X Wx) {ms : List ME} {es : List Expr} (h : all2 (chkE T X.N n X.env.scope) ms es = true) : PA X es (TMds G Wx (evDs (evE cf ce n) ms)) :=
  pa_D (all2_imp h fun m e he => ⟨ih.d C he, chk_plain he⟩)
theorem SndE.LS (ih : SndE cf k n) {X : Cx} {Wx : WX} {ce : List (Option Nat)} (C : CtxE G T cf k ce X Wx) {ms : List (Bool × ME)} {es : List Expr} (h : all2 (chkStar (chkE T X.N n X.env.scope)) ms es = true) : PA X es (TMs G Wx (evLS (evE cf ce n) ms)) :=
  pa_LS (all2_imp h fun p e he => by
    obtain ⟨b, m⟩ := p
    cases b with
    | false => exact ⟨ih X Wx ce m e C he, chk_plain he⟩
    | true =>
      unfold chkStar at he
      split at he
      · rename_i m' e' pp ep
        cases ep
        exact ⟨e', pp, rfl, ih X Wx ce _ e' C he⟩
      · cases he
      · rename_i ep
        cases ep)
theorem chks_plain {N : List Str} {sc : Scope} {ms : List ME} {es : List Expr} (h : all2 (chkE T N n sc) ms es = true) : ∀ e ∈ es, plainE e = true :=
  F2.right (p := fun (_ : ME) e => plainE e = true) (fun _ _ q => q) (all2_imp h fun m e he => chk_plain he)
theorem snd_I (ih : SndE cf k n) {X : Cx} {Wx : WX} {ce : List (Option Nat)} (C : CtxE G T cf k ce X Wx) {it : IT} {tg e : Expr} (h : chkIt T X.env.scope (chkE T X.N n X.env.scope) it tg e = true) : PI X tg e (TMi G Wx (itE (evE cf ce n) it)) := by
  cases it with
  | seq a => exact pi_mseq (ih X Wx ce _ _ C h)
  | rng1 a =>
    unfold chkIt at h
    dsimp only at h
    split at h
    · simp only [Bool.and_eq_true] at h
      obtain ⟨e1, g1, m1, n1⟩ := glB_ok C h.1
      subst e1
      exact pi_mrng1 g1 m1 (chk_plain h.2) (pa_D (.cons ⟨ih.d C h.2, chk_plain h.2⟩ .nil))
    · cases h
  | rng2 a b =>
    unfold chkIt at h
    dsimp only at h
    split at h
    · simp only [Bool.and_eq_true] at h
      obtain ⟨e1, g1, m1, n1⟩ := glB_ok C h.1
      subst e1
      exact pi_mrng2 g1 m1 (chk_plain h.2.1) (chk_plain h.2.2) (pa_D (.cons ⟨ih.d C h.2.1, chk_plain h.2.1⟩ (.cons ⟨ih.d C h.2.2, chk_plain h.2.2⟩ .nil)))
    · cases h
  | rng3 a b c =>
    unfold chkIt at h
    dsimp only at h
    split at h
    · simp only [Bool.and_eq_true] at h
      obtain ⟨e1, g1, m1, n1⟩ := glB_ok C h.1
      subst e1
      exact pi_mrng3 g1 m1 (chk_plain h.2.1) (chk_plain h.2.2.1) (chk_plain h.2.2.2) (pa_D (.cons ⟨ih.d C h.2.1, chk_plain h.2.1⟩ (.cons ⟨ih.d C h.2.2.1, chk_plain h.2.2.1⟩ (.cons ⟨ih.d C h.2.2.2, chk_plain h.2.2.2⟩ .nil))))
    · cases h
  | enum a =>
    unfold chkIt at h
    dsimp only at h
    split at h
    · split at h
      · simp only [Bool.and_eq_true] at h
        obtain ⟨e1, g1, m1, n1⟩ := glB_ok C h.1
        subst e1
        exact pi_menum g1 m1 (chk_plain h.2) (ih X Wx ce _ _ C h.2)
      · cases h
    · cases h
  | zip a b =>
    unfold chkIt at h
    dsimp only at h
    split at h
    · split at h
      · simp only [Bool.and_eq_true] at h
        obtain ⟨e1, g1, m1, n1⟩ := glB_ok C h.1
        subst e1
        exact pi_mzip g1 m1 (chk_plain h.2.1) (chk_plain h.2.2) (pa_L (.cons ⟨ih X Wx ce _ _ C h.2.1, chk_plain h.2.1⟩ (.cons ⟨ih X Wx ce _ _ C h.2.2, chk_plain h.2.2⟩ .nil)))
      · cases h
    · cases h
theorem snd_E (ih : SndE cf k n) (ihT : SndT cf k n) : SndE cf k (n + 1) := by
  intro G T X Wx ce m e C h
  unfold chkE at h
  rw [Bool.and_eq_true] at h
  obtain ⟨hpl, h⟩ := h
  have hu := C.room.un
  cases m with
  | cst w =>
    dsimp only at h
    split at h
    · exact pe_cst h
    · cases h
  | var i =>
    dsimp only at h
    split at h
    · exact pe_mvar (name_pe h)
    · cases h
  | mv i =>
    dsimp only at h
    split at h
    · exact pe_mmv (name_pe h)
    · cases h
  | fn j =>
    dsimp only at h
    split at h
    · obtain ⟨h1, h2, h3⟩ := glF_ok h
      obtain ⟨q1, q2⟩ := C.fns _ _ h2
      exact pe_mfn q2 (pe_glob h1 q1 rfl (nmOk_ok h3).1)
    · cases h
  | bin op a b =>
    dsimp only at h
    split at h
    · simp only [Bool.and_eq_true] at h
      exact pe_mbin (bop_ok h.1) (ih.d C h.2.1) (ih.d C h.2.2)
    · cases h
  | neg a =>
    dsimp only at h
    split at h
    · exact pe_mneg (ih.d C h)
    · cases h
  | not_ a =>
    dsimp only at h
    split at h
    · exact pe_mnot (ih.d C h)
    · cases h
  | cmp op a b =>
    dsimp only at h
    split at h
    · simp only [Bool.and_eq_true] at h
      exact pe_mcmp (cop_ok C h.1) (plain_marks (chk_plain h.2.2)) (ih.d C h.2.1) (ih.d C h.2.2)
    · cases h
  | cmp2 op op' a b c =>
    dsimp only at h
    split at h
    · simp only [Bool.and_eq_true] at h
      exact pe_mchain (cop_ok C h.1) (cop_ok C h.2.1) (chk_plain h.2.2.2.2) (ih.d C h.2.2.1) (ih.d C h.2.2.2.1) (ih.d C h.2.2.2.2)
    · cases h
  | isn ne a =>
    dsimp only at h
    split at h
    · simp only [Bool.and_eq_true, decide_eq_true_eq] at h
      exact pe_misn (by cases ne <;> simp [h.1]) (ih.d C h.2)
    · cases h
  | isb ne b a =>
    dsimp only at h
    split at h
    · simp only [Bool.and_eq_true, decide_eq_true_eq] at h
      obtain ⟨h1, rfl, h2⟩ := h
      exact pe_misb (by cases ne <;> simp [h1]) (ih.d C h2)
    · cases h
  | and_ es =>
    dsimp only at h
    split at h
    · simp only [Bool.and_eq_true] at h
      exact pe_mand (all2_imp h.2 fun m e he => ih X Wx ce m e C he) (ne_nil h.1)
    · cases h
  | or_ es =>
    dsimp only at h
    split at h
    · simp only [Bool.and_eq_true] at h
      exact pe_mor (all2_imp h.2 fun m e he => ih X Wx ce m e C he) (ne_nil h.1)
    · cases h
  | ite c a b =>
    dsimp only at h
    split at h
    · simp only [Bool.and_eq_true] at h
      exact pt_mite (ihT X Wx ce _ _ C h.1) (ih X Wx ce _ _ C h.2.1) (ih X Wx ce _ _ C h.2.2)
    · cases h
  | tup es =>
    dsimp only at h
    split at h
    · simp only [Bool.and_eq_true, decide_eq_true_eq] at h
      exact pe_mtup h.1 (ih.L C h.2)
    · cases h
  | lst es =>
    dsimp only at h
    split at h
    · simp only [Bool.and_eq_true, decide_eq_true_eq] at h
      exact pe_mlst h.1 (ih.L C h.2)
    · cases h
  | lstS es =>
    dsimp only at h
    split at h
    · exact pe_mlstS (ih.LS C h)
    · cases h
  | tupS es =>
    dsimp only at h
    split at h
    · exact pe_mtupS (ih.LS C h)
    · cases h
  | dnew t =>
    dsimp only at h
    split at h
    · exact pe_mdnew
    · cases h
  | idx a b =>
    dsimp only at h
    split at h
    · simp only [Bool.and_eq_true] at h
      exact pe_midx (by omega) (plain_ix (chk_plain h.2)) (ih.d C h.1) (ih.d C h.2)
    · cases h
  | slc a lo hi =>
    dsimp only at h
    split at h
    · simp only [Bool.and_eq_true] at h
      have po : ∀ {o : Option ME} {l : Option Expr}, chkO (chkE T X.N n X.env.scope) o l = true → L2.PO X l (TMo G Wx (evO (evE cf ce n) o)) := fun {o l} q => by
        unfold chkO at q
        split at q
        · exact po_mnone
        · exact po_msome (ih.d C q)
        · cases q
      exact pe_mslc (ih.d C h.1) (po h.2.1) (po h.2.2)
    · cases h
  | rev a =>
    dsimp only at h
    split at h
    · exact pe_mrev (ih.d C h)
    · cases h
  | call j es pk =>
    dsimp only at h
    split at h
    · rw [Bool.and_eq_true] at h
      obtain ⟨hf, h⟩ := h
      obtain ⟨h1, h2, h3⟩ := glF_ok hf
      obtain ⟨q1, qf⟩ := C.fns _ _ h2
      obtain ⟨q2, q3, q4⟩ := C.fnk _ qf
      split at h
      · simp only [Bool.and_eq_true, decide_eq_true_eq] at h
        exact pe_mcall C.nd C.ce q4 C.room h1 q1 q2 q3 C.tk (nmOk_ok h3).1 (chks_plain h.2) h.1 (ih.L C h.2)
      · split at h
        · rw [Bool.and_eq_true, Bool.and_eq_true] at h
          have hn := List.all_eq_true.mp h.1
          have hp := List.contains_iff_mem.mp h.2.1
          exact pe_mcallK C.nd C.ce q4 C.room h1 q1 q2 (C.pats _ hp) (by simp) C.tk (nmOk_ok h3).1 hn rfl (pk_m (all2_imp h.2.2 fun m e he => ih X Wx ce m _ C he))
        · cases h
      · cases h
    · cases h
  | lset a =>
    dsimp only at h
    split at h
    · simp only [Bool.and_eq_true] at h
      obtain ⟨e1, g1, m1, n1⟩ := glB_ok C h.1
      obtain ⟨e2, g2, m2, n2⟩ := glB_ok C h.2.1
      subst e1 e2
      exact pe_mlenset g1 m1 g2 m2 C.calm (chk_plain h.2.2) (ih X Wx ce _ _ C h.2.2)
    · cases h
  | bi b es =>
    dsimp only at h
    split at h
    · simp only [Bool.and_eq_true] at h
      obtain ⟨e1, g1, m1, n1⟩ := glB_ok C h.1
      subst e1
      exact pe_mbi h.2.1 C.hK C.calm g1 m1 (chks_plain h.2.2) (ih.D C h.2.2)
    · cases h
  | isty ts a =>
    dsimp only at h
    split at h
    · simp only [Bool.and_eq_true] at h
      obtain ⟨e1, g1, m1, n1⟩ := glB_ok C h.1
      subst e1
      have h2 := h.2.2
      split at h2
      · simp only [Bool.and_eq_true, decide_eq_true_eq] at h2
        refine pe_mistyM g1 m1 h2.1 (all2_imp h2.2 fun t y hy => ?_) (chk_plain h.2.1) (ih.d C h.2.1)
        split at hy
        · obtain ⟨e3, g3, m3, n3⟩ := glB_ok C hy
          subst e3
          exact ⟨pe_bltn g3 m3 (boot_ty t) rfl (nmOk_ok n3).2.2 (nmOk_ok n3).1, rfl⟩
        · cases hy
      · split at h2
        · obtain ⟨e3, g3, m3, n3⟩ := glB_ok C h2
          subst e3
          exact pe_misty1 g1 m1 g3 m3 (chk_plain h.2.1) (ih.d C h.2.1)
        · cases h2
      · cases h2
    · cases h
  | pop o =>
    dsimp only at h
    split at h
    · simp only [Bool.and_eq_true, decide_eq_true_eq] at h
      obtain ⟨rfl, h0, hl, h1⟩ := h
      exact pe_mpop (chk_plain h1) h0 hl (ih.p C h1)
    · cases h
  | popi o i =>
    dsimp only at h
    split at h
    · simp only [Bool.and_eq_true, decide_eq_true_eq] at h
      obtain ⟨rfl, h0, hl, h1, h2⟩ := h
      exact pe_mpopi (chk_plain h1) h0 (chk_plain h2) hl (ih.p C h1) (ih.d C h2)
    · cases h
  | index a b =>
    dsimp only at h
    split at h
    · simp only [Bool.and_eq_true, decide_eq_true_eq] at h
      obtain ⟨rfl, h0, hl, h1, h2⟩ := h
      exact pe_mindex (chk_plain h1) h0 (chk_plain h2) hl (ih.d C h1) (ih.d C h2)
    · cases h
  | getd a b c =>
    dsimp only at h
    split at h
    · simp only [Bool.and_eq_true, decide_eq_true_eq] at h
      obtain ⟨rfl, h0, hl, h1, h2, h3⟩ := h
      exact pe_mgetd (by omega) (chk_plain h1) h0 (chk_plain h2) (chk_plain h3) hl (ih.d C h1) (ih.d C h2) (ih X Wx ce _ _ C h3)
    · cases h
  | comp own tg it ifs elt =>
    dsimp only at h
    split at h
    · simp only [Bool.and_eq_true, decide_eq_true_eq] at h
      obtain ⟨hb, hnd, htg, hct, hpi, hit, hifs, helt⟩ := h
      rename_i eelt etg eit eifs scope pos
      have hz : ∀ (s : Shared) (H : Hp) (cenv : Env) (fp : List Addr) (x : Str), (scope.names.lookup x == some NameKind.cell) = true → (X.blk s H scope cenv fp).fn x = true := fun _ _ _ _ _ q => q
      have cb : ∀ (s : Shared) (H : Hp) (A : Addr) (cl : List (Str × Addr)) (fp : List Addr), CtxE G T.no cf k [] (X.blk s H scope (compEnvC scope cl A X.env) fp) W0 := fun s H A cl fp => C.blk s H scope cl A fp
      refine pe_mcomp C.calm C.nd (snd_I ih C hit) (blkOk_by hb) (ow_snd _ _) hnd ?_ (tgOk_ok htg) ?_ ?_ ?_ (plain_fold hpi)
      · intro e; subst e; cases htg
      · exact fun s H A cl fp => (chkTgt_pg (X := X.blk s H scope (compEnvC scope cl A X.env) fp) C.calm C.nd (hz s H _ fp) hct).1
      · intro s H A cl fp
        refine pts_m ?_
        unfold chkIfs at hifs
        split at hifs
        · exact .inl ⟨rfl, rfl⟩
        · exact .inr ⟨_, _, rfl, rfl, ihT _ W0 [] _ _ (cb s H A cl fp) hifs⟩
        · cases hifs
      · exact fun s H A cl fp => ih _ W0 [] _ _ (cb s H A cl fp) helt
    · cases h
  | dcomp own t tg it ifs kx vx =>
    dsimp only at h
    split at h
    · simp only [Bool.and_eq_true, decide_eq_true_eq] at h
      obtain ⟨hb, hnd, htg, hct, hpi, hit, hifs, hkx, hvx⟩ := h
      rename_i ekx evx etg eit eifs scope pos
      have hz : ∀ (s : Shared) (H : Hp) (cenv : Env) (fp : List Addr) (x : Str), (scope.names.lookup x == some NameKind.cell) = true → (X.blk s H scope cenv fp).fn x = true := fun _ _ _ _ _ q => q
      have cb : ∀ (s : Shared) (H : Hp) (A : Addr) (cl : List (Str × Addr)) (fp : List Addr), CtxE G T.no cf k [] (X.blk s H scope (compEnvC scope cl A X.env) fp) W0 := fun s H A cl fp => C.blk s H scope cl A fp
      refine pe_mdcomp C.calm C.nd (snd_I ih C hit) (blkOk_by hb) (ow_snd _ _) hnd ?_ (tgOk_ok htg) ?_ ?_ ?_ ?_ (plain_fold hpi)
      · intro e; subst e; cases htg
      · exact fun s H A cl fp => (chkTgt_pg (X := X.blk s H scope (compEnvC scope cl A X.env) fp) C.calm C.nd (hz s H _ fp) hct).1
      · intro s H A cl fp
        refine pts_m ?_
        unfold chkIfs at hifs
        split at hifs
        · exact .inl ⟨rfl, rfl⟩
        · exact .inr ⟨_, _, rfl, rfl, ihT _ W0 [] _ _ (cb s H A cl fp) hifs⟩
        · cases hifs
      · exact fun s H A cl fp => ih _ W0 [] _ _ (cb s H A cl fp) hkx
      · exact fun s H A cl fp => ih _ W0 [] _ _ (cb s H A cl fp) hvx
    · cases h
  | compX own tg it ifs elt fr oc =>
    dsimp only at h
    split at h
    · simp only [Bool.and_eq_true, decide_eq_true_eq] at h
      obtain ⟨hb, hnd, htg, hct, hpi, hit, hifs, helt, hfr, hoc⟩ := h
      rename_i eelt etg eit eifs scope pos
      have hz : ∀ (s : Shared) (H : Hp) (cenv : Env) (fp : List Addr) (x : Str), (scope.names.lookup x == some NameKind.cell) = true → (X.blk s H scope cenv fp).fn x = true := fun _ _ _ _ _ q => q
      have bk := blkOk_by hb
      refine pe_mcompX C.calm C.nd (snd_I ih C hit) bk (ow_snd _ _) hnd ?_ (tgOk_ok htg) ?_ ?_ ?_ (plain_fold hpi)
      · intro e; subst e; cases htg
      · exact fun s H fp => (chkTgt_pg (X := Xb X scope s H fp) C.calm C.nd (hz s H _ fp) hct).1
      · intro s H fp
        refine pts_m ?_
        unfold chkIfs at hifs
        split at hifs
        · exact .inl ⟨rfl, rfl⟩
        · exact .inr ⟨_, _, rfl, rfl, ihT _ W0 [] _ _ (C.blk s H scope _ _ fp) hifs⟩
        · cases hifs
      · intro s H fp far
        refine pe_own (B := Xb X scope s H fp) rfl bk C.ce far (fun i hi => inScope_ok (List.all_eq_true.mp hfr i hi)) (fun i hi => inScope_ok (List.all_eq_true.mp hoc i hi)) fun o ce' hce => ?_
        exact ih _ W0 ce' _ _ (C.blkO s H scope _ _ fp hce) helt
    · cases h
  | lam l is => exact C.lcok l is e h
  | lrng a =>
    dsimp only at h
    split at h
    · simp only [Bool.and_eq_true] at h
      obtain ⟨e1, g1, m1, n1⟩ := glB_ok C h.1
      obtain ⟨e2, g2, m2, n2⟩ := glB_ok C h.2.1
      subst e1 e2
      exact pe_mlrng C.calm g1 m1 g2 m2 (chk_plain h.2.2) (ih.d C h.2.2)
    · cases h
  | lrng2 a b =>
    dsimp only at h
    split at h
    · simp only [Bool.and_eq_true] at h
      obtain ⟨e1, g1, m1, n1⟩ := glB_ok C h.1
      obtain ⟨e2, g2, m2, n2⟩ := glB_ok C h.2.1
      subst e1 e2
      exact pe_mlrng2 C.calm g1 m1 g2 m2 (chk_plain h.2.2.1) (chk_plain h.2.2.2) (ih.d C h.2.2.1) (ih.d C h.2.2.2)
    · cases h
  | kin ne a ks =>
    dsimp only at h
    split at h
    · rename_i ea op y yp pos
      simp only [Bool.and_eq_true, decide_eq_true_eq] at h
      obtain ⟨h1, h2, h3, h4, h5⟩ := h
      obtain ⟨⟨y', ks'⟩, hp, hq⟩ := List.any_eq_true.mp h3
      simp only [Bool.and_eq_true, decide_eq_true_eq] at hq
      obtain ⟨rfl, rfl⟩ := hq
      subst h4
      exact pe_mkin ne (C.kds _ hp) (isGl_ok h1) (nmOk_ok h2).1 (ih.d C h5)
    · cases h
  | items a =>
    dsimp only at h
    split at h
    · simp only [Bool.and_eq_true, decide_eq_true_eq] at h
      obtain ⟨h1, rfl, h2, h3, h4⟩ := h
      obtain ⟨e1, g1, m1, n1⟩ := glB_ok C h1
      subst e1
      exact pe_mitems C.calm g1 m1 (chk_plain h4) h3 h2 (ih X Wx ce _ _ C h4)
    · cases h
  | prom a => exact pe_mprom (ih X Wx ce a e C h)
  | btup a =>
    dsimp only at h
    split at h
    · simp only [Bool.and_eq_true] at h
      obtain ⟨e1, g1, m1, n1⟩ := glB_ok C h.1
      subst e1
      exact pe_mbtup g1 m1 (chk_plain h.2) (ih X Wx ce a _ C h.2)
    · cases h
  | bcall j is =>
    dsimp only at h
    split at h
    · simp only [Bool.and_eq_true] at h
      obtain ⟨hf, hne, hn⟩ := h
      obtain ⟨h1, h2, h3⟩ := glF_ok hf
      obtain ⟨q1, qf⟩ := C.fns _ _ h2
      obtain ⟨q2, q3, q4⟩ := C.fnk _ qf
      exact pe_mbcall (ne_nil hne) q4 C.room h1 q1 q2 q3 C.tk (nmOk_ok h3).1 (all2_imp hn fun i e he => isNm0_ok he)
    · cases h
  | shr a => exact pe_mshr (ih X Wx ce a e C h)
  | mrk t a => exact pe_mseal C.sl (ih X Wx ce a e C h)
  | callv g es =>
    dsimp only at h
    split at h
    · simp only [Bool.and_eq_true, decide_eq_true_eq] at h
      exact pe_mcallv C.nd C.ce C.room C.clo (T := fun j => T.ps.getD j []) C.fnk C.tk (chks_plain h.2.2.2) h.2.1 h.1 (ih X Wx ce _ _ C h.2.2.1) (ih.L C h.2.2.2)
    · cases h
  | callvK g es kw fs =>
    dsimp only at h
    split at h
    · simp only [Bool.and_eq_true] at h
      obtain ⟨h1, h2, h3, h4, h5, h6⟩ := h
      have hn := List.all_eq_true.mp h4
      have hp := List.all_eq_true.mp h5
      exact pe_mcallvK C.nd C.ce C.room (T := fun j => T.ps.getD j []) C.fnk (ne_nil h3) (fun j hj => C.pats _ (List.contains_iff_mem.mp (hp j (List.contains_iff_mem.mp hj)))) C.tk hn rfl h1 (ih X Wx ce _ _ C h2) (pk_m (all2_imp h6 fun m e he => ih X Wx ce m _ C he))
    · cases h
  | _ => cases h
theorem snd_T (ih : SndE cf k n) (ihT : SndT cf k n) : SndT cf k (n + 1) := by
  intro G T X Wx ce m e C h
  unfold chkT at h
  have fin : ∀ {m : ME} {e : Expr}, (chkE T X.N n X.env.scope m e && (match e with
      | .UnaryOp .Not _ _ => false
      | .BoolOp _ _ _ => false
      | .IfExp _ _ _ _ => false
      | .Compare _ _ _ _ => false
      | _ => true)) = true → PT X e (TMt G Wx fun s h => (ev1 (evE cf ce n) m s h).bind fun w s h => ofO (truW w) s h) := fun {m e} q => by
    rw [Bool.and_eq_true] at q
    refine pt_mval (ih.d C q.1) ?_
    have q2 := q.2
    cases e with
    | UnaryOp o a p => cases o <;> first | (intro _; rfl) | (cases q2)
    | BoolOp _ _ _ => cases q2
    | IfExp _ _ _ _ => cases q2
    | Compare _ _ _ _ => cases q2
    | _ => intro _; rfl
  cases m with
  | not_ a =>
    dsimp only at h
    split at h
    · exact pt_mnot (ihT X Wx ce _ _ C h)
    · cases h
  | and_ es =>
    dsimp only at h
    split at h
    · simp only [Bool.and_eq_true] at h
      exact (pt_mand (all2_imp h.2 fun m e he => ihT X Wx ce m e C he) (ne_nil h.1)).pt
    · cases h
  | or_ es =>
    dsimp only at h
    split at h
    · simp only [Bool.and_eq_true] at h
      exact (pt_mor (all2_imp h.2 fun m e he => ihT X Wx ce m e C he) (ne_nil h.1)).pt
    · cases h
  | cmp op a b =>
    dsimp only at h
    split at h
    · simp only [Bool.and_eq_true] at h
      exact pt_mcmp (cop_ok C h.1) (plain_marks (chk_plain h.2.2)) (ih.d C h.2.1) (ih.d C h.2.2)
    · cases h
  | cmp2 op op' a b c =>
    dsimp only at h
    split at h
    · simp only [Bool.and_eq_true] at h
      exact pt_mchain (cop_ok C h.1) (cop_ok C h.2.1) (chk_plain h.2.2.2.2) (ih.d C h.2.2.1) (ih.d C h.2.2.2.1) (ih.d C h.2.2.2.2)
    · cases h
  | isn ne a =>
    dsimp only at h
    split at h
    · simp only [Bool.and_eq_true, decide_eq_true_eq] at h
      exact pt_misn (by cases ne <;> simp [h.1]) (ih.d C h.2)
    · cases h
  | isb ne b a =>
    dsimp only at h
    split at h
    · simp only [Bool.and_eq_true, decide_eq_true_eq] at h
      obtain ⟨h1, rfl, h2⟩ := h
      exact pt_misb (by cases ne <;> simp [h1]) (ih.d C h2)
    · cases h
  | kin ne a ks =>
    dsimp only at h
    split at h
    · rename_i ea op y yp pos
      simp only [Bool.and_eq_true, decide_eq_true_eq] at h
      obtain ⟨h1, h2, h3, h4, h5⟩ := h
      obtain ⟨⟨y', ks'⟩, hp, hq⟩ := List.any_eq_true.mp h3
      simp only [Bool.and_eq_true, decide_eq_true_eq] at hq
      obtain ⟨rfl, rfl⟩ := hq
      subst h4
      exact pt_mkin ne (C.kds _ hp) (isGl_ok h1) (nmOk_ok h2).1 (ih.d C h5)
    · cases h
  | ite c a b => cases h
  | _ => exact fin h
theorem snd : ∀ n, SndE cf k n ∧ SndT cf k n
  | 0 => ⟨fun _ _ _ _ _ _ h => (by cases h), fun _ _ _ _ _ _ h => (by cases h)⟩
  | n + 1 => ⟨snd_E (snd n).1 (snd n).2, snd_T (snd n).1 (snd n).2⟩
end
end Mini
set_option Elab.async false
set_option linter.all false
set_option maxRecDepth 100000
set_option maxHeartbeats 1000000
/-! Mini: statements, kind by kind. -/
namespace Mini
open PySem L2
section
variable (G : GI) (Wx : WX) (F : Fz) (r : List Addr) (H : Hp) (R : List Addr)
def EKS (c : Nat) (ws : List W) (s' : SL) (h' : HH) : Prop := ∀ F' r' H' L' σ' cls d, Bh G F r H R σ' F' r' H' L' s' → WI G F' r' H' h' (L' ++ R) → XR G F' r' H' c ws cls d → Wx cls d H'
def PF (D : Ends) (fl : Fl) (s' : SL) (h' : HH) : Prop := match fl with
  | .next => ∀ F' r' H' L' σ', Bh G F r H R σ' F' r' H' L' s' → WI G F' r' H' h' (L' ++ R) → D.nx σ' H'
  | .brk => ∀ F' r' H' L' σ', Bh G F r H R σ' F' r' H' L' s' → WI G F' r' H' h' (L' ++ R) → D.bk σ' H'
  | .cont => ∀ F' r' H' L' σ', Bh G F r H R σ' F' r' H' L' s' → WI G F' r' H' h' (L' ++ R) → D.ct σ' H'
  | .ret o => ∀ F' r' H' L' σ' v M, Bh G F r H R σ' F' r' H' L' s' → RO G F' r' H' o v M → WI G F' r' H' h' (M ++ (L' ++ R)) → D.rt v H'
end
section
variable (G : GI) (Wx : WX)
def TMS (g : SL → HH → R Fl) : TS := fun D σ H => ∃ F r s h L R, At G F r H R σ s h L ∧ Out (g s h) (PF G F r H R D) (EKS G Wx F r H R)
end
section
variable {G : GI} {Wx : WX} {X : Cx} {f : ME → SL → HH → R O} {tf : ME → SL → HH → R Bool} {F F1 : Fz} {r r1 : List Addr} {H H1 : Hp} {R L L1 : List Addr} {σ σ1 : L2.St} {s s1 : SL} {h h1 : HH}
theorem Bh.transS {F' : Fz} {r' : List Addr} {H' : Hp} {L' : List Addr} {s' : SL} {σ' : L2.St} (a : Bh G F r H R σ1 F1 r1 H1 L1 s1) (b : Bh G F1 r1 H1 R σ' F' r' H' L' s') : Bh G F r H R σ' F' r' H' L' s' :=
  ⟨a.le.trans b.le, b.rs, fun x hx => (b.kp x hx).trans (a.kp x hx)⟩
theorem EKS.ek {c : Nat} {ws : List W} {s' : SL} {h' : HH} (q : EKS G Wx F r H R c ws s' h') : EK G Wx F r H R σ c ws s' h' := fun F' r' H' L' cls d b w x => q F' r' H' L' σ cls d b w x
theorem EKS.tr (a : Bh G F r H R σ1 F1 r1 H1 L1 s1) {c : Nat} {ws : List W} {s' : SL} {h' : HH} (q : EKS G Wx F r H R c ws s' h') : EKS G Wx F1 r1 H1 R c ws s' h' :=
  fun F' r' H' L' σ' cls d b w x => q F' r' H' L' σ' cls d (a.transS b) w x
theorem PF.tr (a : Bh G F r H R σ1 F1 r1 H1 L1 s1) {D : Ends} {fl : Fl} {s' : SL} {h' : HH} (q : PF G F r H R D fl s' h') : PF G F1 r1 H1 R D fl s' h' := by
  cases fl with
  | next => exact fun F' r' H' L' σ' b w => q F' r' H' L' σ' (a.transS b) w
  | brk => exact fun F' r' H' L' σ' b w => q F' r' H' L' σ' (a.transS b) w
  | cont => exact fun F' r' H' L' σ' b w => q F' r' H' L' σ' (a.transS b) w
  | ret o => exact fun F' r' H' L' σ' v M b ro w => q F' r' H' L' σ' v M (a.transS b) ro w
theorem _root_.L2.PS.weak {st : Stmt} {t t' : TS} (h : PS X st t) (w : ∀ D σ H, t' D σ H → t D σ H) : PS X st t' := ⟨fun pins s σ H D I q => h.run pins s σ H D I (w D σ H q)⟩
theorem _root_.L2.PSs.weak {st : List Stmt} {t t' : TS} (h : PSs X st t) (w : ∀ D σ H, t' D σ H → t D σ H) : PSs X st t' := ⟨fun pins s σ H D I q => h.run pins s σ H D I (w D σ H q)⟩
theorem set_own {o : O} {v : V} {M : List Addr} (q : RS G F r H s σ L) (p : RO G F r H o v M) (w : WI G F r H h (M ++ (L ++ R))) (i : Nat) : ∃ L', RS G F r H (s.set i (some o)) (σ.set i (some v)) L' ∧ WI G F r H h (L' ++ R) := by
  by_cases hi : i < s.length
  · obtain ⟨A, M0, B, eL, rA, rB, _⟩ := q.split i hi
    refine ⟨A ++ (M ++ B), RS.mk hi q.len rA rB p, ?_⟩
    have pm : (M ++ (L ++ R)).Perm (M0 ++ ((A ++ (M ++ B)) ++ R)) := by
      rw [eL]
      have z1 : (A ++ (M0 ++ B)).Perm (M0 ++ (A ++ B)) := List.perm_append_comm_assoc ..
      have z2 : (M ++ ((A ++ (M0 ++ B)) ++ R)).Perm (M ++ ((M0 ++ (A ++ B)) ++ R)) := List.Perm.append_left M (z1.append_right R)
      refine z2.trans ?_
      rw [List.append_assoc M0]
      have z3 : (M ++ (M0 ++ ((A ++ B) ++ R))).Perm (M0 ++ (M ++ ((A ++ B) ++ R))) := List.perm_append_comm_assoc ..
      refine z3.trans (List.Perm.append_left M0 ?_)
      rw [← List.append_assoc M]
      refine List.Perm.append_right R ?_
      exact List.perm_append_comm_assoc ..
    exact (w.perm pm).right
  · rw [List.set_eq_of_length_le (by omega), List.set_eq_of_length_le (by rw [← q.len]; omega)]
    exact ⟨L, q, w.right⟩
/-! ### sequences -/
theorem pss_m {g : MS → SL → HH → Mini.R Fl} : ∀ {ms : List MS} {sts : List Stmt}, F2 (fun m st => PS X st (TMS G Wx (g m))) ms sts → PSs X sts (TMS G Wx (exL g ms))
  | _, _, .nil => pss_nil.weak fun D σ H ⟨F, r, s, h, L, R, a, out⟩ => out F r H L σ a.here a.wi
  | m :: ms, _, .cons a b => by
    refine (pss_cons a (pss_m b)).weak ?_
    rintro D σ H ⟨F, r, s, h, L, R, a0, out⟩
    refine ⟨F, r, s, h, L, R, a0, (Out.cases (show Out ((g m s h).bind fun fl s h => match fl with
      | .next => exL g ms s h
      | fl => .ok fl s h) _ _ from out)).mono (fun fl s1 h1 o1 => ?_) (fun _ _ _ _ z => z)⟩
    cases fl with
    | next => exact fun F1 r1 H1 L1 σ1 b1 wi1 => ⟨F1, r1, s1, h1, L1, R, b1.at wi1, Out.mono (show Out (exL g ms s1 h1) _ _ from o1) (fun _ _ _ z => z.tr b1) fun _ _ _ _ z => z.tr b1⟩
    | brk => exact o1
    | cont => exact o1
    | ret o => exact o1
/-! ### simple statements -/
theorem w_drop {e : ME} : ∀ D σ H, TMS G Wx (fun s h => (f e s h).bind fun _ s h => .ok .next s h) D σ H → tDrop (TM G Wx (f e)) D σ H := by
  rintro D σ H ⟨F, r, s, h, L, R, a0, out⟩
  refine ⟨F, r, s, h, L, R, a0, (Out.cases out).mono (fun o s1 h1 o1 => ?_) (fun _ _ _ _ z => z.ek)⟩
  exact fun F1 r1 H1 L1 v M b1 ro wi1 => o1 F1 r1 H1 L1 σ b1 wi1.right
theorem w_set {e : ME} {i : Nat} : ∀ D σ H, TMS G Wx (fun s h => (f e s h).bind fun o s h => .ok .next (s.set i (some o)) h) D σ H → tAsg (TM G Wx (f e)) (gName i) D σ H := by
  rintro D σ H ⟨F, r, s, h, L, R, a0, out⟩
  refine ⟨F, r, s, h, L, R, a0, (Out.cases out).mono (fun o s1 h1 o1 => ?_) (fun _ _ _ _ z => z.ek)⟩
  intro F1 r1 H1 L1 v M b1 ro wi1
  obtain ⟨L2, rs2, wi2⟩ := set_own b1.rs ro wi1 i
  exact o1 F1 r1 H1 L2 _ ⟨b1.le, rs2, b1.kp⟩ wi2
theorem w_ret {e : ME} : ∀ D σ H, TMS G Wx (fun s h => (f e s h).bind fun o s h => .ok (.ret o) s h) D σ H → tRet (TM G Wx (f e)) D σ H := by
  rintro D σ H ⟨F, r, s, h, L, R, a0, out⟩
  refine ⟨F, r, s, h, L, R, a0, (Out.cases out).mono (fun o s1 h1 o1 => ?_) (fun _ _ _ _ z => z.ek)⟩
  exact fun F1 r1 H1 L1 v M b1 ro wi1 => o1 F1 r1 H1 L1 σ v M b1 ro wi1
theorem w_retN : ∀ D σ H, TMS G Wx (fun s h => .ok (.ret (.sh .non)) s h) D σ H → tRetN D σ H :=
  fun D σ H ⟨F, r, s, h, L, R, a, out⟩ => out F r H L σ .non [] a.here (.sh .non) a.wi
theorem w_if {c : SL → HH → Mini.R Bool} {g g' : SL → HH → Mini.R Fl} : ∀ D σ H, TMS G Wx (fun s h => (c s h).bind fun t s h => if t then g s h else g' s h) D σ H → tIfS (TMt G Wx c) (TMS G Wx g) (TMS G Wx g') D σ H := by
  rintro D σ H ⟨F, r, s, h, L, R, a0, out⟩
  refine ⟨F, r, s, h, L, R, a0, (Out.cases out).mono (fun b s1 h1 o1 => ?_) (fun _ _ _ _ z => z.ek)⟩
  intro F1 r1 H1 L1 b1 wi1
  cases b with
  | true => exact ⟨F1, r1, s1, h1, L1, R, b1.at wi1, Out.mono (show Out (g s1 h1) _ _ from o1) (fun _ _ _ z => z.tr b1) fun _ _ _ _ z => z.tr b1⟩
  | false => exact ⟨F1, r1, s1, h1, L1, R, b1.at wi1, Out.mono (show Out (g' s1 h1) _ _ from o1) (fun _ _ _ z => z.tr b1) fun _ _ _ _ z => z.tr b1⟩
theorem w_while {c : SL → HH → Mini.R Bool} {g : SL → HH → Mini.R Fl} {m : Nat} : ∀ D σ H, TMS G Wx (whileL c g m) D σ H → tWhile (TMt G Wx c) (TMS G Wx g) D σ H := by
  rintro D σ H ⟨F, r, s, h, L, R, a0, out⟩
  refine ⟨fun m σ' H' => ∃ F' r' s' h' L', Bh G F r H R σ' F' r' H' L' s' ∧ WI G F' r' H' h' (L' ++ R) ∧ Out (whileL c g m s' h') (PF G F r H R D) (EKS G Wx F r H R), ⟨m, F, r, s, h, L, a0.here, a0.wi, out⟩, ?_⟩
  rintro m σ1 H1 ⟨F1, r1, s1, h1, L1, b1, wi1, o1⟩
  cases m with
  | zero => exact o1.elim
  | succ m =>
    unfold whileL at o1
    refine ⟨F1, r1, s1, h1, L1, R, b1.at wi1, (Out.cases o1).mono (fun b s2 h2 o2 => ?_) (fun _ _ _ _ z => (z.tr b1).ek)⟩
    intro F2 r2 H2 L2 b2 wi2
    have b12 := b1.transS b2
    cases b with
    | true =>
      refine ⟨fun σ' H' => ∃ F' r' s' h' L', Bh G F r H R σ' F' r' H' L' s' ∧ WI G F' r' H' h' (L' ++ R) ∧ Out (whileL c g m s' h') (PF G F r H R D) (EKS G Wx F r H R), fun σ' H' q => ⟨m, Nat.lt_succ_self m, q⟩, ?_⟩
      refine ⟨F2, r2, s2, h2, L2, R, b2.at wi2, (Out.cases (show Out ((g s2 h2).bind fun f s h => match f with
        | .next => whileL c g m s h
        | .cont => whileL c g m s h
        | .brk => .ok .next s h
        | .ret o => .ok (.ret o) s h) _ _ from o2)).mono (fun fl s3 h3 o3 => ?_) (fun _ _ _ _ z => z.tr b12)⟩
      cases fl with
      | next => exact fun F3 r3 H3 L3 σ3 b3 wi3 => ⟨F3, r3, s3, h3, L3, b12.transS b3, wi3, o3⟩
      | cont => exact fun F3 r3 H3 L3 σ3 b3 wi3 => ⟨F3, r3, s3, h3, L3, b12.transS b3, wi3, o3⟩
      | brk => exact fun F3 r3 H3 L3 σ3 b3 wi3 => o3 F3 r3 H3 L3 σ3 (b12.transS b3) wi3
      | ret o => exact fun F3 r3 H3 L3 σ3 v M b3 ro wi3 => o3 F3 r3 H3 L3 σ3 v M (b12.transS b3) ro wi3
    | false => exact o2 F2 r2 H2 L2 σ1 b12 wi2
theorem forL_guard {tg : Tg} {gs : List (Nat × List W)} {g : SL → HH → Mini.R Fl} {ws : List W} {s : SL} {h : HH} {P : Fl → SL → HH → Prop} {E : Nat → List W → SL → HH → Prop} (o : Out (forL tg gs g ws s h) P E) : guard gs h = true := by
  cases ws <;> unfold forL at o <;> split at o <;> first | assumption | exact o.elim
theorem w_for {K : PySem.W.Frag} {tg : Tg} {it : SL → HH → Mini.R Wk} {g : SL → HH → Mini.R Fl} (hk : tg ≠ .skip) : ∀ D σ H, TMS G Wx (fun s h => (it s h).bind fun k s h => forL tg k.gs g k.ws s h) D σ H → tFor (TMi G Wx it) (gTg K tg) (TMS G Wx g) D σ H := by
  rintro D σ H ⟨F, r, s, h, L, R, a0, out⟩
  refine ⟨F, r, s, h, L, R, a0, (Out.cases out).mono (fun kk s1 h1 o1 => ?_) (fun _ _ _ _ z => z.ek)⟩
  intro F1 r1 H1 L1 J b1 wi1 tn
  obtain ⟨ws, gs⟩ := kk
  obtain ⟨n, Gs, Y, walk, en, hG, hY⟩ := tn
  refine for_it walk (fun i σ' H' => ∃ F' r' s' h' L', Bh G F r H R σ' F' r' H' L' s' ∧ Le F1 r1 H1 F' r' H' ∧ WI G F' r' H' h' (L' ++ R) ∧ Out (forL tg gs g (ws.drop i) s' h') (PF G F r H R D) (EKS G Wx F r H R)) ?_ ?_ ?_ ?_
  · exact ⟨F1, r1, s1, h1, L1, b1, Le.refl _ _ _, wi1, by rw [List.drop_zero]; exact o1⟩
  · rintro i σ' H' hi ⟨F', r', s', h', L', b', l, wi2, o3⟩
    exact hG _ _ _ _ _ l wi2 (forL_guard o3)
  · rintro i x σ2 H2 H3 hi ⟨F', r', s', h', L', b', l, wi2, o3⟩ y
    have hiw : i < ws.length := en ▸ hi
    have hgd := forL_guard o3
    have ew : ws[i]? = some ws[i] := List.getElem?_eq_getElem hiw
    have ed : ws.drop i = ws[i] :: ws.drop (i + 1) := (List.getElem_cons_drop hiw).symm
    generalize ws[i] = w at ew ed
    obtain ⟨l2, k2, wi3, rw3⟩ := hY i w F' r' H2 x H3 h' _ l wi2 hgd y ew
    rw [ed] at o3
    have th : ∀ b ∈ L' ++ R, H3 b = H2 b := fun b hb => k2 b (wi2.there hb)
    have b3 : Bh G F r H R σ2 F' r' H3 L' s' := ⟨b'.le.trans l2, b'.rs.mono l2 fun b hb => th b (List.mem_append_left _ hb), fun b hb => (th b (List.mem_append_right _ hb)).trans (b'.kp b hb)⟩
    unfold forL at o3
    rw [if_pos hgd] at o3
    split at o3
    · exact o3.elim
    · rename_i s2 es
      refine w_tg (s' := s2) b3.rs rw3 es hk fun σ3 L3 rs3 hL3 hwp hsl3 => ?_
      have wi4 : WI G F' r' H3 h' (L3 ++ R) := wi3.of (fun b hb => by
        rcases List.mem_append.mp hb with q | q
        · exact List.mem_append_left _ (hL3.subset q)
        · exact List.mem_append_right _ q) ((hL3.append (List.Sublist.refl R)).nodup wi3.nodup)
      have b4 : Bh G F r H R σ3 F' r' H3 L3 s2 := ⟨b3.le, rs3, b3.kp⟩
      refine ⟨F', r', s2, h', L3, R, b4.at wi4, (Out.cases o3).mono (fun fl s5 h5 o5 => ?_) (fun _ _ _ _ z => z.tr b4)⟩
      cases fl with
      | next => exact fun F5 r5 H5 L5 σ5 b5 wi5 => ⟨F5, r5, s5, h5, L5, b4.transS b5, (l.trans l2).trans b5.le, wi5, o5⟩
      | cont => exact fun F5 r5 H5 L5 σ5 b5 wi5 => ⟨F5, r5, s5, h5, L5, b4.transS b5, (l.trans l2).trans b5.le, wi5, o5⟩
      | brk => exact fun F5 r5 H5 L5 σ5 b5 wi5 => o5 F5 r5 H5 L5 σ5 (b4.transS b5) wi5
      | ret o => exact fun F5 r5 H5 L5 σ5 v M b5 ro wi5 => o5 F5 r5 H5 L5 σ5 v M (b4.transS b5) ro wi5
  · rintro σ' H' ⟨F', r', s', h', L', b', l, wi2, o3⟩
    rw [en, List.drop_length] at o3
    have hgd := forL_guard o3
    unfold forL at o3
    rw [if_pos hgd] at o3
    exact o3 F' r' H' L' σ' b' wi2
theorem w_aug {e : ME} {i : Nat} {op : BOp} {g : Int → Int → Int} (hg : (op = .add ∧ g = fun a b => a + b) ∨ (op = .sub ∧ g = fun a b => a - b)) : ∀ D σ H, TMS G Wx (fun s h => match s[i]? with
      | some (some (.sh (.int a))) => (ev1 f e s h).bind fun w s h => match w with
        | .int b => (match op with
          | .add => .ok .next (s.set i (some (.sh (.int (a + b))))) h
          | .sub => .ok .next (s.set i (some (.sh (.int (a - b))))) h
          | _ => .fail)
        | _ => .fail
      | _ => .fail) D σ H → tAug i (TMd G Wx (evD f e)) (ipI g) D σ H := by
  rintro D σ H ⟨F, r, s, h, L, R, a0, out⟩
  dsimp only at out
  split at out
  · rename_i a ei
    have hi := (List.getElem?_eq_some_iff.mp ei).1
    obtain ⟨A, M, B, eL, rA, rB, c⟩ := a0.rs.split i hi
    rcases c with ⟨e1, _⟩ | ⟨o', v, e1, e2, ro⟩
    · rw [ei] at e1; cases e1
    rw [ei] at e1
    cases e1
    cases ro with
    | sh q =>
      cases q
      refine ⟨.int a, e2, F, r, s, h, L, R, a0, (Out.cases (Out.cases out)).mono (fun d s1 h1 o1 => ?_) (fun _ _ _ _ z => z.ek)⟩
      intro F1 r1 H1 L1 x b1 rd wi1
      obtain ⟨w, e3, o3⟩ := Out.ofO o1
      have vx := RD.view (b1.at wi1) rd e3
      split at o3
      · rename_i b
        rw [vx.int]
        have fin : ∀ c : Int, g a b = c → (Out (Mini.R.ok Fl.next (s1.set i (some (.sh (.int c)))) h1) (PF G F r H R D) (EKS G Wx F r H R)) → ipI g (.int a) (.int b) H1 fun z H2 => D.nx (σ.set i (some z)) H2 := fun c ec q => by
          refine ⟨a, b, rfl, rfl, ?_⟩
          rw [ec]
          obtain ⟨L2, rs2, hs⟩ := b1.rs.put i (RW.int (G := G) (F := F1) (r := r1) (H := H1) c)
          refine q F1 r1 H1 L2 _ ⟨b1.le, rs2, b1.kp⟩ (wi1.of (fun b hb => ?_) ((hs.append (List.Sublist.refl R)).nodup wi1.nodup))
          rcases List.mem_append.mp hb with q | q
          · exact List.mem_append_left _ (hs.subset q)
          · exact List.mem_append_right _ q
        rcases hg with ⟨rfl, rfl⟩ | ⟨rfl, rfl⟩
        · exact fin _ rfl o3
        · exact fin _ rfl o3
      · exact o3.elim
  · exact out.elim
theorem w_back {g : SL → HH → Mini.R Fl} : ∀ D σ H, TMS G Wx (backB g) D σ H → TMS G Wx g D σ H := by
  rintro D σ H ⟨F, r, s, h, L, R, a0, out⟩
  obtain ⟨Ll, w1, _, len, back⟩ := a0.wi.fgt [] G.own (fun p hp => by rw [List.append_nil]; exact a0.wi.lk p hp)
  rw [List.append_nil] at w1 back
  have w1 : WI G F r H (Mini.fgt h) (L ++ (Ll ++ R)) := by simpa using w1
  refine ⟨F, r, s, Mini.fgt h, L, Ll ++ R, ⟨a0.rs, w1⟩, ?_⟩
  unfold backB at out
  generalize g s (Mini.fgt h) = z at out ⊢
  cases z with
  | fail => exact out.elim
  | exc c ws s' h' => exact out.elim
  | ok fl s' h' =>
    dsimp only at out
    split at out
    · rename_i hc
      rw [Bool.and_eq_true, len] at hc
      have key : ∀ {F' : Fz} {r' : List Addr} {H' : Hp} {L' M : List Addr} {σ' : L2.St}, Bh G F r H (Ll ++ R) σ' F' r' H' L' s' → WI G F' r' H' h' (M ++ (L' ++ (Ll ++ R))) → ∃ m, r' = r ++ m ∧ Bh G F r H R σ' F' r H' L' s' ∧ WI G F' r H' h (M ++ (L' ++ R)) := by
        intro F' r' H' L' M σ' b w
        obtain ⟨w2, l2, m, em⟩ := back (M := M ++ L') b.le b.kp (by rw [List.append_assoc]; exact w) hc.1
        subst em
        exact ⟨m, rfl, ⟨l2, b.rs.trim hc.2, fun x hx => b.kp x (List.mem_append_right _ hx)⟩, by rw [← List.append_assoc]; exact w2⟩
      cases fl with
      | next =>
        intro F' r' H' L' σ' b w
        obtain ⟨m, rfl, b2, w2⟩ := key (M := []) b w
        exact out F' r H' L' σ' b2 w2
      | brk =>
        intro F' r' H' L' σ' b w
        obtain ⟨m, rfl, b2, w2⟩ := key (M := []) b w
        exact out F' r H' L' σ' b2 w2
      | cont =>
        intro F' r' H' L' σ' b w
        obtain ⟨m, rfl, b2, w2⟩ := key (M := []) b w
        exact out F' r H' L' σ' b2 w2
      | ret o =>
        dsimp only at out
        split at out
        · rename_i ho
          rw [len] at ho
          intro F' r' H' L' σ' v M b ro w
          obtain ⟨m, rfl, b2, w2⟩ := key (M := M) b w
          exact out F' r H' L' σ' v M b2 (ro.trim ho) w2
        · exact out.elim
    · exact out.elim
end
end Mini
set_option Elab.async false
set_option linter.all false
set_option maxRecDepth 100000
set_option maxHeartbeats 1000000
/-! Mini: several names at once; places. -/
namespace Mini
open PySem L2
section
variable {G : GI} {Wx : WX} {X : Cx} {f : ME → SL → HH → R O} {tf : ME → SL → HH → R Bool} {F F1 : Fz} {r r1 : List Addr} {H H1 : Hp} {R L L1 : List Addr} {σ σ1 : L2.St} {s s1 : SL} {h h1 : HH}
/-- things held and set, one by one -/
theorem w_setOs : ∀ {is : List Nat} {os : List O} {vs : List V} {σ : L2.St} {s s' : SL} {L M : List Addr}, RS G F r H s σ L → ROs G F r H os vs M → WI G F r H h (M ++ (L ++ R)) → setOs s is os = some s' →
    ∀ {Q : L2.St → Hp → Prop}, (∀ σ' L', RS G F r H s' σ' L' → WI G F r H h (L' ++ R) → σ' = (is.zip vs).foldl (fun σ p => σ.set p.1 (some p.2)) σ → Q σ' H) → vs.length = is.length ∧ gMany is vs σ H Q ∧ Q ((is.zip vs).foldl (fun σ p => σ.set p.1 (some p.2)) σ) H
  | [], [], vs, σ, s, s', L, M, q, p, w, e, Q, k => by
    cases p
    cases e
    have z := k σ L q w rfl
    exact ⟨rfl, ⟨rfl, z⟩, z⟩
  | i :: is, o :: os, _, σ, s, s', L, _, q, .cons (v := v) (vs := vs) (L := M1) (M := M2) p ps, w, e, Q, k => by
    have w1 : WI G F r H h (M1 ++ (L ++ (M2 ++ R))) := by
      refine w.perm ?_
      rw [List.append_assoc]
      refine List.Perm.append_left M1 ?_
      exact List.perm_append_comm_assoc ..
    obtain ⟨L1, q1, w2⟩ := set_own q p w1 i
    have w3 : WI G F r H h (M2 ++ (L1 ++ R)) := w2.perm (List.perm_append_comm_assoc ..)
    obtain ⟨h1, h2, h3⟩ := w_setOs (is := is) (os := os) q1 ps w3 e (Q := Q) fun σ' L' q' w' e' => k σ' L' q' w' (by rw [e']; rfl)
    exact ⟨by simp [h1], ⟨v, vs, rfl, h2⟩, h3⟩
  | [], _ :: _, _, _, _, _, _, _, _, _, _, e, _, _ => by cases e
  | _ :: _, [], _, _, _, _, _, _, _, _, _, e, _, _ => by cases e
theorem w_par2 {i j : Nat} {es : List ME} : ∀ D σ H, TMS G Wx (fun s h => (evL f es s h).bind fun os s h => match setOs s [i, j] os with
      | some s => .ok .next s h
      | none => .fail) D σ H → tPar i j (TMs G Wx (evL f es)) D σ H := by
  rintro D σ H ⟨F, r, s, h, L, R, a0, out⟩
  refine ⟨F, r, s, h, L, R, a0, (Out.cases out).mono (fun os s1 h1 o1 => ?_) (fun _ _ _ _ z => z.ek)⟩
  intro F1 r1 H1 L1 vs M b1 ros wi1
  split at o1
  · rename_i s2 e
    obtain ⟨z1, z2, z3⟩ := w_setOs b1.rs ros wi1 e (Q := D.nx) fun σ' L' q' w' e' => o1 F1 r1 H1 L' σ' ⟨b1.le, q', b1.kp⟩ w'
    match vs, z1 with
    | [v, w], _ => exact ⟨v, w, rfl, z3⟩
  · exact o1.elim
theorem w_par3 {i j l : Nat} {es : List ME} : ∀ D σ H, TMS G Wx (fun s h => (evL f es s h).bind fun os s h => match setOs s [i, j, l] os with
      | some s => .ok .next s h
      | none => .fail) D σ H → tPar3 i j l (TMs G Wx (evL f es)) D σ H := by
  rintro D σ H ⟨F, r, s, h, L, R, a0, out⟩
  refine ⟨F, r, s, h, L, R, a0, (Out.cases out).mono (fun os s1 h1 o1 => ?_) (fun _ _ _ _ z => z.ek)⟩
  intro F1 r1 H1 L1 vs M b1 ros wi1
  split at o1
  · rename_i s2 e
    obtain ⟨z1, z2, z3⟩ := w_setOs b1.rs ros wi1 e (Q := D.nx) fun σ' L' q' w' e' => o1 F1 r1 H1 L' σ' ⟨b1.le, q', b1.kp⟩ w'
    match vs, z1 with
    | [v, w, u], _ => exact ⟨v, w, u, rfl, z3⟩
  · exact o1.elim
theorem w_unp {K : PySem.W.Frag} {is : List Nat} {e : ME} : ∀ D σ H, TMS G Wx (fun s h => (f e s h).bind fun o s h => match o with
      | .sh (.tup ws) => match setMany s is ws with
        | some s => .ok .next s h
        | none => .fail
      | .tup os => match setOs s is os with
        | some s => .ok .next s h
        | none => .fail
      | _ => .fail) D σ H → tAsg (TM G Wx (f e)) (gTg K (.many is)) D σ H := by
  rintro D σ H ⟨F, r, s, h, L, R, a0, out⟩
  refine ⟨F, r, s, h, L, R, a0, (Out.cases out).mono (fun o s1 h1 o1 => ?_) (fun _ _ _ _ z => z.ek)⟩
  intro F1 r1 H1 L1 v M b1 ro wi1
  split at o1
  · rename_i ws
    split at o1
    · rename_i s2 es
      cases ro with
      | sh q =>
        refine w_tg (s' := s2) b1.rs q (show setTg s1 (.many is) (.tup ws) = some s2 from es) (by simp) fun σ' L' rs' hs _ _ => ?_
        refine o1 F1 r1 H1 L' σ' ⟨b1.le, rs', b1.kp⟩ (wi1.right.of (fun b hb => ?_) ((hs.append (List.Sublist.refl R)).nodup wi1.right.nodup))
        rcases List.mem_append.mp hb with q | q
        · exact List.mem_append_left _ (hs.subset q)
        · exact List.mem_append_right _ q
    · exact o1.elim
  · rename_i os
    split at o1
    · rename_i s2 es
      cases ro with
      | tup ha q =>
        obtain ⟨z1, z2, z3⟩ := w_setOs b1.rs q wi1 es (Q := D.nx) fun σ' L' q' w' e' => o1 F1 r1 H1 L' σ' ⟨b1.le, q', b1.kp⟩ w'
        exact ⟨_, _, rfl, .of ha, z1, z2⟩
    · exact o1.elim
  · exact o1.elim
/-! ### append -/
theorem w_appP (a : At G F r H R σ s h L) {p : Pl} {v : V} (rp : RP σ r p v) {o : O} {x : V} {M : List Addr} (ro : RO G F r H o x M) (wi : WI G F r H h (M ++ (L ++ R))) {Q : Hp → Prop}
    {P : Unit → SL → HH → Prop} {E : Nat → List W → SL → HH → Prop} (out : Out (appP p o s h) P E) (k : ∀ s' h', P () s' h' → ∀ F' H' L', Bh G F r H R σ F' r H' L' s' → WI G F' r H' h' (L' ++ R) → Q H') :
    ∃ l vs, v = .ref l ∧ H l = some (.lst vs) ∧ vs.length < sizeLine ∧ Q (upd H l (.lst (vs ++ [x]))) := by
  cases p with
  | slot j =>
    unfold appP at out
    dsimp only at out
    split at out
    · rename_i xs ej
      split at out
      · rename_i hz
        obtain ⟨l, vs, Lx, Lo, e1, e2, q, pm, hl, up⟩ := own_upd a ej
        have rp : σ[j]? = some (some v) := rp
        rw [e1] at rp
        cases rp
        refine ⟨l, vs, rfl, e2, by rw [← q.len, ← line_eq]; exact hz, ?_⟩
        have lin : l ∈ M ++ (L ++ R) := List.mem_append_right _ (List.mem_append_left _ hl)
        have le := Le.own wi lin (by rw [e2]; simp) (by rw [e2]; simp) (.lst (vs ++ [x]))
        have nl : ∀ b ∈ Lx, b ≠ l := fun b hb ee => by
          have nd := pm.nodup_iff.mp (List.nodup_append.mp a.wi.nodup).1
          exact (List.nodup_cons.mp nd).1 (ee ▸ List.mem_append_left _ hb)
        have nM : ∀ b ∈ M, b ≠ l := fun b hb ee => (List.nodup_append.mp wi.nodup).2.2 b hb l (List.mem_append_left _ hl) ee
        have lR : ∀ b ∈ R, b ≠ l := fun b hb ee => (List.nodup_append.mp a.wi.nodup).2.2 l hl b hb ee.symm
        obtain ⟨L', rs', pm'⟩ := up (xs ++ [o]) (vs ++ [x]) (Lx ++ (M ++ [])) (ROs.append (q.mono le fun b hb => upd_ne (nl b hb)) (.cons (ro.mono le fun b hb => upd_ne (nM b hb)) .nil))
        refine k _ _ out F _ L' ⟨le, rs', fun b hb => upd_ne (lR b hb)⟩ ((WI.own wi lin (by rw [e2]; simp) (by rw [e2]; simp) _).perm ?_)
        rw [← List.append_assoc]
        refine List.Perm.append_right R (List.Perm.trans (List.Perm.append_left M pm) (List.Perm.trans ?_ pm'.symm))
        rw [List.append_nil]
        refine List.perm_middle.trans (List.Perm.cons l ?_)
        rw [← List.append_assoc]
        exact List.perm_append_comm.append_right Lo
      · exact out.elim
    · exact out.elim
  | heap j =>
    unfold appP at out
    dsimp only at out
    split at out
    · rename_i xs ej
      split at out
      · rename_i hz
        obtain ⟨l, er, ev⟩ := rp
        have w2 := WI.share wi
        obtain ⟨vs, q1, q2, naR, up⟩ := w2.hlook ej er
        refine ⟨l, vs, ev, q1, by rw [← q2.len, ← line_eq]; exact hz, ?_⟩
        obtain ⟨le, w'⟩ := up (q2.append (.cons ro.shareM .nil))
        have kp : ∀ b ∈ L ++ R, upd H l (.lst (vs ++ [x])) b = H b := fun b hb => upd_ne fun ee => naR (ee ▸ hb)
        exact k _ _ out _ _ L ⟨Le.share.trans le, (a.rs.mono Le.share fun _ _ => rfl).mono le fun b hb => kp b (List.mem_append_left _ hb), fun b hb => kp b (List.mem_append_right _ hb)⟩ w'
      · exact out.elim
    · exact out.elim
theorem ps_mapp {a e : ME} {ea ee : Expr} {apos cpos pos : Pos} (hp : plainE ea = true) (h0 : noCall0 ea = true) (hi : plainE ee = true) (hl : (apos.endLine == cpos.line) = true) (ha : PE X ea (TMp G Wx (evP f a))) (he : PE X ee (TM G Wx (f e))) :
    PS X (.Expr (.Call (.Attribute ea "append" apos) [ee] [] cpos) pos) (TMS G Wx fun s h => (evPl f a s h).bind fun p s h => (f e s h).bind fun v s h => (appP p v s h).bind fun _ s h => .ok .next s h) := by
  refine (ps_expr (pe_bm F.plainAttrs_list F.slot_list_append rfl mt_append (pe_pl ha X.K) (pa_cons he pa_nil (plain_star hi)) (plain_base hp h0) (by rw [plain_star hi]; rfl) hl (plain_star hi) rfl)).weak ?_
  rintro D σ H ⟨F, r, s, h, L, R, a0, out⟩
  refine ⟨F, r, s, h, L, R, a0, (Out.cases out).mono (fun p s1 h1 o1 => ?_) (fun _ _ _ _ z => z.ek)⟩
  intro F1 r1 H1 L1 v b1 rp ty wi1
  refine ⟨ty, F1, r1, s1, h1, L1, R, b1.at wi1, (Out.cases o1).mono (fun o s2 h2 o2 => ?_) (fun _ _ _ _ z => (z.tr b1).ek)⟩
  intro F2 r2 H2 L2 x M b2 ro wi2
  obtain ⟨l, vs, ev, el, ez, q⟩ := w_appP (b2.at wi2.right) (rp.mono b2.le) ro wi2 (Out.cases o2) (Q := D.nx σ) fun s' h' q F' H' L' b w => q F' r2 H' L' σ ((b1.transS b2).transS b) w
  exact ⟨l, vs, x, ev, rfl, el, ez, q⟩
/-! ### a place is set -/
theorem ROs.setAt {xs : List O} {vs : List V} {n : Nat} (q : ROs G F r H xs vs L) (hn : n < xs.length) : ∃ P M0 S, L = P ++ (M0 ++ S) ∧ ∀ {F' r' H'} {o : O} {x : V} {M : List Addr}, Le F r H F' r' H' → (∀ b ∈ P ++ S, H' b = H b) → RO G F' r' H' o x M → ROs G F' r' H' (xs.set n o) (vs.set n x) (P ++ (M ++ S)) := by
  obtain ⟨o', v, P, M0, S, h1, h2, h3, h4, h5, h6⟩ := q.split n hn
  refine ⟨P, M0, S, h4, fun {F' r' H' o x M} l k ro => ?_⟩
  rw [set_split o hn, set_split x (by rw [← q.len]; exact hn)]
  exact ROs.append (h5.mono l fun b hb => k b (List.mem_append_left _ hb)) (.cons ro (h6.mono l fun b hb => k b (List.mem_append_right _ hb)))
theorem w_stP1 (a : At G F r H R σ s h L) {p : Pl} {v : V} (rp : RP σ r p v) {o : O} {x : V} {M : List Addr} (ro : RO G F r H o x M) (wi : WI G F r H h (M ++ (L ++ R))) {kw : W} {kv : V} (vk : VW G F r H kw kv) {Q : Hp → Prop}
    {P : Unit → SL → HH → Prop} {E : Nat → List W → SL → HH → Prop} (out : Out (stP1 p kw o s h) P E) (k : ∀ s' h', P () s' h' → ∀ F' H' L', Bh G F r H R σ F' r H' L' s' → WI G F' r H' h' (L' ++ R) → Q H') :
    rSetL v kv x H Q := by
  cases p with
  | slot j =>
    unfold stP1 at out
    dsimp only at out
    split at out
    · rename_i xs ej
      split at out
      · rename_i i
        split at out
        · rename_i n en
          obtain ⟨l, vs, Lx, Lo, e1, e2, q, pm, hl, up⟩ := own_upd a ej
          have rp : σ[j]? = some (some v) := rp
          rw [e1] at rp
          cases rp
          have hn : n < xs.length := by
            unfold Mini.ixN at en
            split at en
            · split at en
              · cases en; omega
              · cases en
            · split at en
              · cases en; omega
              · cases en
          obtain ⟨P0, M0, S0, eL, mk⟩ := q.setAt hn
          rw [vk.int]
          refine ⟨l, vs, i, n, rfl, rfl, e2, by rw [← q.len]; exact en, ?_⟩
          have lin : l ∈ M ++ (L ++ R) := List.mem_append_right _ (List.mem_append_left _ hl)
          have le := Le.own wi lin (by rw [e2]; simp) (by rw [e2]; simp) (.lst (vs.set n x))
          have nl : ∀ b ∈ Lx, b ≠ l := fun b hb ee => by
            have nd := pm.nodup_iff.mp (List.nodup_append.mp a.wi.nodup).1
            exact (List.nodup_cons.mp nd).1 (ee ▸ List.mem_append_left _ hb)
          have nM : ∀ b ∈ M, b ≠ l := fun b hb ee => (List.nodup_append.mp wi.nodup).2.2 b hb l (List.mem_append_left _ hl) ee
          have lR : ∀ b ∈ R, b ≠ l := fun b hb ee => (List.nodup_append.mp a.wi.nodup).2.2 l hl b hb ee.symm
          obtain ⟨L', rs', pm'⟩ := up (xs.set n o) (vs.set n x) (P0 ++ (M ++ S0)) (mk le (fun b hb => upd_ne (nl b (by
            rw [eL]
            rcases List.mem_append.mp hb with q | q
            · exact List.mem_append_left _ q
            · exact List.mem_append_right _ (List.mem_append_right _ q)))) (ro.mono le fun b hb => upd_ne (nM b hb)))
          have w2 := WI.own wi lin (by rw [e2]; simp) (by rw [e2]; simp) (.lst (vs.set n x))
          refine k _ _ out F _ L' ⟨le, rs', fun b hb => upd_ne (lR b hb)⟩ (WI.right (L := M0) (w2.perm ?_))
          rw [← List.append_assoc, ← List.append_assoc]
          refine List.Perm.append_right R (List.Perm.trans (List.Perm.append_left M pm) (List.Perm.trans ?_ (List.Perm.append_left M0 pm'.symm)))
          rw [eL]
          have t1 : (M ++ (l :: ((P0 ++ (M0 ++ S0)) ++ Lo))).Perm (l :: (M ++ ((P0 ++ (M0 ++ S0)) ++ Lo))) := List.perm_middle
          have t2 : (M0 ++ (l :: ((P0 ++ (M ++ S0)) ++ Lo))).Perm (l :: (M0 ++ ((P0 ++ (M ++ S0)) ++ Lo))) := List.perm_middle
          refine t1.trans (List.Perm.trans (List.Perm.cons l ?_) t2.symm)
          rw [← List.append_assoc M, ← List.append_assoc M0]
          refine List.Perm.append_right Lo ?_
          have u1 : (P0 ++ (M0 ++ S0)).Perm (M0 ++ (P0 ++ S0)) := List.perm_append_comm_assoc ..
          have u2 : (P0 ++ (M ++ S0)).Perm (M ++ (P0 ++ S0)) := List.perm_append_comm_assoc ..
          refine (List.Perm.append_left M u1).trans (List.Perm.trans ?_ (List.Perm.append_left M0 u2).symm)
          exact List.perm_append_comm_assoc ..
        · exact out.elim
      · exact out.elim
    · exact out.elim
  | heap j =>
    unfold stP1 at out
    dsimp only at out
    split at out
    · rename_i xs ej
      split at out
      · rename_i i
        split at out
        · rename_i n en
          obtain ⟨l, er, ev⟩ := rp
          have w2 := WI.share wi
          obtain ⟨vs, q1, q2, naR, up⟩ := w2.hlook ej er
          rw [vk.int]
          refine ⟨l, vs, i, n, ev, rfl, q1, by rw [← q2.len]; exact en, ?_⟩
          obtain ⟨le, w'⟩ := up (q2.set ro.shareM n)
          have kp : ∀ b ∈ L ++ R, upd H l (.lst (vs.set n x)) b = H b := fun b hb => upd_ne fun ee => naR (ee ▸ hb)
          exact k _ _ out _ _ L ⟨Le.share.trans le, (a.rs.mono Le.share fun _ _ => rfl).mono le fun b hb => kp b (List.mem_append_left _ hb), fun b hb => kp b (List.mem_append_right _ hb)⟩ w'
        · exact out.elim
      · exact out.elim
    · exact out.elim
end
end Mini
set_option Elab.async false
set_option linter.all false
set_option maxRecDepth 100000
set_option maxHeartbeats 1000000
/-! Mini: the checker of statements, and that it tells the truth. -/
namespace Mini
open PySem L2
def noComp : Expr → Bool
  | .ListComp _ _ _ _ => false
  | .SetComp _ _ _ _ => false
  | .DictComp _ _ _ _ _ => false
  | _ => true
theorem noComp_sw {e : Expr} {t : Option Expr} {n : Nat} {env : Env} (h : noComp e = true) : swapsWith e t n env = pure false := by
  cases e <;> first | rfl | cases h
theorem sw_sub {o i e : Expr} {p : Pos} {n : Nat} {env : Env} : swapsWithSole [.Subscript o i p] e n env = pure false := by
  cases e <;> rfl
theorem sw_tupT {ts : List Expr} {kt : Nat} {e : Expr} {p : Pos} {n : Nat} {env : Env} : swapsWithSole [.Tuple ts kt p] e n env = pure false := by
  cases e <;> rfl
theorem noStar : ∀ {a : Expr}, plainE a = true → ¬ (match a with | .Starred .. => true | _ => false) = true := by
  intro a h
  cases a <;> first | (intro q; cases q; done) | cases h
theorem sw2 {x y : Str} {px py pt pt2 : Pos} {a b : Expr} {kt k2 : Nat} {env : Env} (hb : env.blockKind = .function) (hx : env.kindOf x = some .local) (hy : env.kindOf y = some .local) (hl : (py.line == px.line) = true) (hd : ([x, y].eraseDups.length == 2) = true)
    (ha : plainE a = true) (hb' : plainE b = true) (hf : (foldedForSure 8 a && foldedForSure 8 b) = false) (hc : (constantsAlone 8 a && constantsAlone 8 b) = false) :
    swappedStores [.Tuple [.Name x px, .Name y py] kt pt] (.Tuple [a, b] k2 pt2) env = pure (some [x, y]) := by
  have s1 := noStar ha
  have s2 := noStar hb'
  have hd2 : [x, y].eraseDups.length = 2 := by simpa using hd
  have hl2 : py.line = px.line := by simpa using hl
  have hf2 : ¬ (foldedForSure 8 a = true ∧ foldedForSure 8 b = true) := fun q => by rw [q.1, q.2] at hf; cases hf
  have hc2 : ¬ (constantsAlone 8 a = true ∧ constantsAlone 8 b = true) := fun q => by rw [q.1, q.2] at hc; cases hc
  unfold swappedStores
  simp [hb, hx, hy, hl2, hd2, Expr.pos]
  rw [if_neg (fun q => q.elim s1 s2), if_neg hf2, if_neg hc2]
theorem sw3 {x y z : Str} {px py pz pt pt2 : Pos} {a b c : Expr} {kt k2 : Nat} {env : Env} (hb : env.blockKind = .function) (hx : env.kindOf x = some .local) (hy : env.kindOf y = some .local) (hz : env.kindOf z = some .local) (hl : (py.line == px.line) = true) (hl' : (pz.line == px.line) = true) (hd : ([x, y, z].eraseDups.length == 3) = true)
    (ha : plainE a = true) (hb' : plainE b = true) (hc' : plainE c = true) (hf : (foldedForSure 8 a && (foldedForSure 8 b && foldedForSure 8 c)) = false) (hc : (constantsAlone 8 a && (constantsAlone 8 b && constantsAlone 8 c)) = false) :
    swappedStores [.Tuple [.Name x px, .Name y py, .Name z pz] kt pt] (.Tuple [a, b, c] k2 pt2) env = pure (some [x, y, z]) := by
  have s1 := noStar ha
  have s2 := noStar hb'
  have s3 := noStar hc'
  have hd2 : [x, y, z].eraseDups.length = 3 := by simpa using hd
  have hl2 : py.line = px.line := by simpa using hl
  have hl3 : pz.line = px.line := by simpa using hl'
  have hf2 : ¬ (foldedForSure 8 a = true ∧ foldedForSure 8 b = true ∧ foldedForSure 8 c = true) := fun q => by rw [q.1, q.2.1, q.2.2] at hf; cases hf
  have hc2 : ¬ (constantsAlone 8 a = true ∧ constantsAlone 8 b = true ∧ constantsAlone 8 c = true) := fun q => by rw [q.1, q.2.1, q.2.2] at hc; cases hc
  unfold swappedStores
  simp [hb, hx, hy, hz, hl2, hl3, hd2, Expr.pos]
  rw [if_neg (fun q => q.elim s1 fun q => q.elim s2 s3), if_neg hf2, if_neg hc2]
/-- no names are swapped where all is constant, or where it is no pair of displays -/
def swNone (ts : List Expr) (v : Expr) : Bool := match v with
  | .Tuple vs _ _ => vs.all (foldedForSure 8) || ts.any fun t => (match t with
    | .Name _ _ => false
    | _ => true)
  | _ => true
theorem swN {ts vs : List Expr} {kt k2 : Nat} {pt pt2 : Pos} {env : Env} (h : vs.all (foldedForSure 8) = true) : swappedStores [.Tuple ts kt pt] (.Tuple vs k2 pt2) env = pure none := by
  unfold swappedStores
  simp only [pure_bind]
  split
  · rfl
  · split
    · rfl
    · simp [h]
/-- a target that is no plain local name -/
def offName (sc : Scope) (t : Expr) : Bool := match t with
  | .Name x _ => !decide (sc.names.lookup x = some .local)
  | _ => true
theorem swC {ts vs : List Expr} {kt k2 : Nat} {pt pt2 : Pos} {env : Env} (h : ts.any (offName env.scope) = true) : swappedStores [.Tuple ts kt pt] (.Tuple vs k2 pt2) env = pure none := by
  obtain ⟨t, ht, ho⟩ := List.any_eq_true.mp h
  unfold swappedStores
  simp only [pure_bind]
  split
  · rfl
  · split
    · rfl
    · refine (if_pos ?_).trans rfl
      rw [Bool.or_eq_true]
      left
      rw [bne_iff_ne]
      refine Nat.ne_of_lt (List.length_filterMap_lt_length_iff_exists.mpr ⟨t, ht, ?_⟩)
      unfold offName at ho
      split at ho
      · rename_i x px
        simp only [Bool.not_eq_true', decide_eq_false_iff_not] at ho
        have : (env.kindOf x == some .local) = false := by
          cases e : env.kindOf x == some .local with
          | false => rfl
          | true => exact absurd (eq_of_beq e) ho
        simp [this]
      · rename_i hne
        cases t <;> first | rfl | exact absurd rfl (hne _ _)
theorem swN' {ts : List Expr} {v : Expr} {kt : Nat} {pt : Pos} {env : Env} (h : (match v with
    | .Tuple _ _ _ => false
    | _ => true) = true) : swappedStores [.Tuple ts kt pt] v env = pure none := by
  cases v <;> first | rfl | cases h
end Mini
set_option Elab.async false
set_option linter.all false
set_option maxRecDepth 100000
set_option maxHeartbeats 1000000
/-! Mini: errors raised and caught. -/
namespace Mini
open PySem L2
/-- what __init__(self, f): self.f = f does -/
def spInit (K : PySem.W.Frag) (f : Str) : Sp := fun vs H Q _ => ∃ (a C : Addr) (y : V), vs = [.ref a, y] ∧ H a = some (exo a C none) ∧ OexC K C ∧ PySem.W.findIn K (.ref C) f = some none ∧ ∀ dx, H dx = none → dx ≠ a → Q .non (upd (upd H dx (exd dx [(f, y)])) a (exo a C (some dx)))
/-- an error class of the text, of one field -/
structure ClsOk (P : Program) (w : World) (K : PySem.W.Frag) (mg : Str → Option Value) (base : Heap) (G : GS) (x : Str) (c : Nat) (f : Str) : Prop where
  at_ : mg x = some (.ref (G.ca c))
  cok : G.cok c
  cf : G.cf c = some f
  T : OexC K (G.ca c)
  xf : XfC K (G.ca c)
  hno : PySem.W.findIn K (.ref (G.ca c)) f = some none
  init : ∃ fI fd, PySem.W.findIn K (.ref (G.ca c)) "__init__" = some (some (.ref fI)) ∧ PySem.W.typeIn K (.ref fI) = some (.type "function") ∧ FnOk P w K mg base (L2.CX P w) 1 fI fd ["self", f] (spInit K f) ∧ Binds K fd ["self", f] []
def initOk (f : Str) (st : Stmt) : Bool := decide (f ≠ "self") && (decide (f ≠ "__debug__") && (decide (f ≠ "__classdict__") && (C8.scC ["self", f] ["self", f] (C8.fnScope st) && (decide ((C8.fnScope st).names.lookup ("self" : Str) = some .local) && (decide ((C8.fnScope st).names.lookup f = some .local) && match C8.fnBody st with
  | [.Assign [.Attribute (.Name a _) g _] (.Name b _) _] => decide (a = "self") && (decide (b = f) && decide (g = f))
  | _ => false)))))
theorem init_ok {P : Program} {w : World} {K : PySem.W.Frag} {mg : Str → Option Value} {base : Heap} {qual f : Str} {st : Stmt} {fI : Addr} {fd : FuncData} (F : C8.Fun K "__init__" qual st fI fd) (h : initOk f st = true) : FnOk P w K mg base (L2.CX P w) 1 fI fd ["self", f] (spInit K f) := by
  unfold initOk at h
  simp only [Bool.and_eq_true, decide_eq_true_eq] at h
  obtain ⟨h1, h2, h3, hsc, hl1, hl2, hb⟩ := h
  have S := C8.fnScope_by hsc
  obtain ⟨oc, od, dV, kV, doc, pm, an, cdv, ct, osl, rfl, lk, hcd⟩ := F.ex
  split at hb
  · rename_i a pa g pg b pb ps eb
    simp only [Bool.and_eq_true, decide_eq_true_eq] at hb
    obtain ⟨rfl, rfl, rfl⟩ := hb
    refine fn_of lk hcd S (fun vs H Q E ⟨a, C, y, e, _⟩ => by rw [e]; rfl) fun A outer s H vs Q E hr ⟨a, C, y, e, ha, hT, hf, hq⟩ => ?_
    subst e
    rw [eb]
    refine ⟨_, pss_one (ps_ost (pe_var (i := 0) (by rfl) (.inl hl1)) (pe_var (i := 1) (by rfl) (.inl hl2) (by simpa using h2) (by simpa using h3))), ?_⟩
    exact ⟨y, rfl, .ref a, rfl, a, C, rfl, hT, hf, .inl ⟨ha, fun dx n ne => hq dx n ne⟩⟩
  · cases hb
section
variable {G : GI} {Wx : WX} {X : Cx} {f : ME → SL → HH → R O} {F F1 : Fz} {r r1 : List Addr} {H H1 : Hp} {R L L1 : List Addr} {σ σ1 : L2.St} {s s1 : SL} {h h1 : HH}
theorem ps_mraise {x fl : Str} {c : Nat} {e : Expr} {m : ME} {p pos pos' : Pos} (hc : X.calm = true) (hr : Room 2 X.A) (tk : Takes X (fun c d _ H => Wx c d H)) (ok : ClsOk X.prog X.w X.K X.mg X.base G.toGS x c fl) (hg : Gl X x) (hdb : (x == ("__debug__" : Str)) = false) (hp : plainE e = true) (ha : PA X [e] (TMs G Wx (evL f [m]))) :
    PS X (.Raise (some (.Call (.Name x p) [e] [] pos)) none pos') (TMS G Wx fun s h => (evL f [m] s h).bind fun os s h => .exc c (O.toWs os) s h) := by
  obtain ⟨fI, fd, i1, i2, i3, i4⟩ := ok.init
  have hx : Passes (L2.CX X.prog X.w) X (fun _ _ _ => False) := passes_call tk (E := fun _ _ _ => False) (fun _ _ _ _ z => z.elim)
  refine (ps_raise hc tk (pmk_oex ok.T i1 i2 i3 hr i4 (dvs := []) .nil hx hg ok.at_ ha hdb (plain_star hp) rfl)).weak ?_
  rintro D σ H ⟨F, r, s, h, L, R, a0, out⟩
  refine ⟨F, r, s, h, L, R, a0, (Out.cases out).monoE (fun os s1 h1 e0 o1 => ?_) (fun _ _ _ _ z => z.ek)⟩
  intro F1 r1 H1 L1 vs M b1 ros wi1
  have hlen : os.length = 1 := evL_len e0
  match os, vs, ros, hlen with
  | [o], [y], ros, _ =>
    refine ⟨by simp, fun a na => ?_⟩
    refine ⟨a, G.ca c, y, rfl, upd_same, ok.T, ok.hno, fun dx ndx ne => ⟨rfl, dx, [(fl, y)], upd_same, ?_, ?_, ?_⟩⟩
    · rw [upd_ne ne, upd_same]
    · rw [← ndx, upd_ne ne]
    · have nd : H1 dx = none := by rw [← ndx, upd_ne ne]
      have eH : upd (del (upd (upd (upd H1 a (exo a (G.ca c) none)) dx (exd dx [(fl, y)])) a (exo a (G.ca c) (some dx))) a) dx (.xd [(fl, y)]) = upd H1 dx (.xd [(fl, y)]) := by
        funext b
        by_cases hb : b = dx
        · subst hb; rw [upd_same, upd_same]
        · rw [upd_ne hb, upd_ne hb]
          by_cases hba : b = a
          · subst hba; rw [del_same, na]
          · rw [del_ne hba, upd_ne hba, upd_ne hb, upd_ne hba]
      rw [eH]
      have w2 := wi1.share
      have l2 := Le.new w2 nd (.xd [(fl, y)])
      have kp : ∀ b ∈ L1 ++ R, upd H1 dx (.xd [(fl, y)]) b = H1 b := fun b hb => upd_ne (w2.ne hb nd)
      refine o1 _ r1 _ L1 σ (.ref (G.ca c)) (some dx) ⟨(b1.le.trans Le.share).trans l2, (b1.rs.mono Le.share fun _ _ => rfl).mono l2 fun b hb => kp b (List.mem_append_left _ hb), fun b hb => (kp b (List.mem_append_right _ hb)).trans (b1.kp b hb)⟩ (w2.newT nd _) ⟨ok.cok, rfl, ?_⟩
      have q := ros.shareM
      cases q with
      | cons q1 q2 =>
        cases q2
        exact ⟨dx, fl, y, rfl, ok.cf, upd_same, q1.mono l2⟩
end
/-! ### try .. except, many clauses, each with or without a name -/
section
variable {X : Cx}
def endsO (D : Ends) : Option Nat → Ends
  | none => D
  | some i => { nx := fun σ' H' => D.nx (σ'.set i none) H', rt := D.rt, bk := fun σ' H' => D.bk (σ'.set i none) H', ct := fun σ' H' => D.ct (σ'.set i none) H' }
def setO (σ : L2.St) (a : Addr) : Option Nat → L2.St
  | none => σ
  | some i => σ.set i (some (.ref a))
abbrev Hd : Type := Value × Option Nat × (Addr → Value → Option Addr → TS)
def wM (K : PySem.W.Frag) (Wout : L2.WX) (D : Ends) : List Hd → L2.WX
  | [] => Wout
  | (c, i, ts) :: r => fun cls d σ H => ∃ b, PySem.W.exmOne K cls c = some b ∧ (b = true → ∀ a, H a = none → ts a cls d (endsO D i) (setO σ a i) H) ∧ (b = false → wM K Wout D r cls d σ H)
inductive HdM (X : Cx) : List ExceptHandler → List Hd → Prop
  | nil : HdM X [] []
  | no {x : Str} {c : Value} {ts : Addr → Value → Option Addr → TS} {b₀ : Stmt} {suite : List Stmt} {np pos' : Pos} {hds : List ExceptHandler} {l : List Hd} (hc : Names X x c)
      (hsu : ∀ (a : Addr) (oe : Obj) (cls : Value) (d : Option Addr) (pn : List (Addr × Obj)), Zc cls d oe → (∃ vs, oe.data = .fields vs) → PSs (X.suite a ((a, oe) :: pn)) (b₀ :: suite) (ts a cls d)) (r : HdM X hds l) :
      HdM X (.ExceptHandler (some (.Name x np)) none (b₀ :: suite) pos' :: hds) ((c, none, ts) :: l)
  | as_ {x n : Str} {c : Value} {i : Nat} {ts : Addr → Value → Option Addr → TS} {b₀ : Stmt} {suite : List Stmt} {np pos' : Pos} {hds : List ExceptHandler} {l : List Hd} (hc : Names X x c) (hi : X.N[i]? = some n) (hln : X.env.kindOf n = some .local)
      (hsu : ∀ (a : Addr) (oe : Obj) (cls : Value) (d : Option Addr) (pn : List (Addr × Obj)), Zc cls d oe → (∃ vs, oe.data = .fields vs) → PSs (X.suite a ((a, oe) :: pn)) (b₀ :: suite) (ts a cls d)) (r : HdM X hds l) :
      HdM X (.ExceptHandler (some (.Name x np)) (some n) (b₀ :: suite) pos' :: hds) ((c, some i, ts) :: l)
open PySem.Spec PyProof.Rows in
theorem ps_tryM {body : List Stmt} {h₀ : ExceptHandler} {hds : List ExceptHandler} {l : List Hd} {pos : Pos} {tb : L2.WX → TS} {Wout : L2.WX} (hs : X.stack = X.env :: X.outer) (hf : X.env.frame = some X.env.locals) (hN : X.N.Nodup) (tk : Takes X Wout)
    (hb : ∀ (W : L2.WX) (pn : List (Addr × Obj)) (xe : Value → Shared → Prop), Takes (X.tr pn xe) W → PassesOwn (model X.prog X.w) X.A X.env xe → PSs (X.tr pn xe) body (tb W))
    (hh : HdM X (h₀ :: hds) l) : PS X (.Try body (h₀ :: hds) [] [] pos) (fun D σ H => tb (wM X.K Wout D l) D σ H) := by
  refine ⟨fun pins s σ H D I h => ?_⟩
  have ok := I.ok
  have hfr : X.A.frames = some (X.env :: X.outer) := by rw [ok.frames, hs]
  refine wpAny_Try_except ?_
  refine wpAny_mono ((hb (wM X.K Wout D l) (X.pn ++ pins) (fun e s₁ => wpAny (model X.prog X.w) X.A (noteFrame e X.env) (fun _ s₂ => wpAny (model X.prog X.w) X.A (setFlight e none) (fun _ s₃ =>
    wpAny (model X.prog X.w) X.A (handleBy e X.env (h₀ :: hds)) (SP X pins D) X.xe s₃) X.xe s₂) X.xe s₁) (fun u s' xx => ?_) PassesOwn.looking).run [] s σ H D (I.toTry _) h) (fun f s1 hsp => ?_) (fun e s1 he => he)
  · obtain ⟨a, B, sI, pins', σ', H', cls, d, rfl, J', nb, up, sky, na, os, ag, w⟩ := xx
    have J : L2.Inv X pins σ' H' sI := J'.ofTry ok
    have sky' : Sky B (X.env :: X.outer) a (Zc cls d) X.env.locals s'.heap := by rw [← hs]; exact sky
    show wpAny (model X.prog X.w) X.A (noteFrame (.ref a) X.env) _ _ _
    refine Sky.land Zc.steady hfr hf sky' fun h3 fl3 up3 => ?_
    have J3 : L2.Inv X pins σ' H' { s' with heap := h3 } := J.landed nb fl3.1 (up.trans up3) os ag
    obtain ⟨oe3, vs3, he3, hz3, hd3⟩ := fl3.there
    have notFr : ∀ {h : Heap} {o : Obj} {vs : Array Value}, h.FunFrames B (X.env :: X.outer) → h.get? a = some o → o.data = .fields vs → a ∉ frs (X.env :: X.outer) := fun {h o vs} ff e dd hm => by
      obtain ⟨_, o', e', hnf⟩ := ff.mem hm
      rw [e] at e'; cases e'
      exact hnf _ dd
    have nfr := notFr fl3.2.2.1 he3 hd3
    have nL : a ≠ X.env.locals := fun z => nfr (List.mem_filterMap.mpr ⟨X.env, List.mem_cons_self, by rw [hf, z]⟩)
    have nF : a ∉ X.fs := fun hm => by
      obtain ⟨e, he, q⟩ := List.mem_filterMap.mp hm
      exact nfr (List.mem_filterMap.mpr ⟨e, List.mem_cons_of_mem _ he, q⟩)
    have S3 := J3.suite he3 hd3 na nL nF
    have LT : PySem.W.Looks (model X.prog X.w) h3 (typeOf (.ref a)) cls := fun A Q E s k q => wpAny_typeOf_ref (k _ _ he3) (by rw [hz3.1]; exact q)
    have test : ∀ {x : Str} {c : Value} {np : Pos}, Names X x c → ∀ {Q : Value → Shared → Prop} {E : Value → Shared → Prop}, Q c { s' with heap := h3 } → wpAny (model X.prog X.w) (X.A.mark (some (.ref a))) (eval (.Name x np) X.env) Q E { s' with heap := h3 } := fun {x c np} hc {Q E} q => by
      obtain ⟨hg, hdbg, hm | ⟨hm, hv, hnn⟩⟩ := hc
      · exact ld_glob (X := X.suite a ((a, oe3) :: (X.pn ++ pins))) S3 hg hm q hdbg
      · exact ld_blt (X := X.suite a ((a, oe3) :: (X.pn ++ pins))) S3 hg hm hv q hnn hdbg
    have go : ∀ {hds' : List ExceptHandler} {l' : List Hd}, HdM X hds' l' → wM X.K Wout D l' cls d σ' H' →
        wpAny (model X.prog X.w) X.A (handleBy (.ref a) X.env hds') (SP X pins D) X.xe { s' with heap := h3 } := by
      intro hds' l' hk
      induction hk with
      | nil =>
        intro w
        refine wpAny_handleBy_nil ?_
        obtain ⟨k1, k2, k3, oe, vs, T, oT, ts', he, hz, hd, h1, hr⟩ := id fl3
        unfold PySem.passOn
        refine wpAny_bind (wpAny_field he hd h1 ?_)
        rw [if_neg (show ¬ ((Value.ref T == Value.none) = true) from by simp)]
        have fin : wpAny (model X.prog X.w) X.A (setFlight (.ref a) X.env.frame) (fun _ s4 => wpAny (model X.prog X.w) X.A (throw (.ref a) : Sem Flow) (SP X pins D) X.xe s4) X.xe { s' with heap := h3 } := by
          rw [hf]
          refine HandSPX.setFlight_upZ fl3 fun h4 hh4 up4 => wpAny_throw (tk _ _ ?_)
          exact ⟨a, B, sI, pins, σ', H', cls, d, rfl, J, nb, (up.trans up3).trans up4, .inr (.inr (by rw [hs]; exact hh4)), na, os, ag, w⟩
        first
          | exact wpAny_bind (wpAny_pure (wpAny_bind fin))
          | exact wpAny_bind fin
      | @no x c ts b₀ suite np pos' hds2 l2 hc hsu r ih =>
        intro w
        obtain ⟨b, hb1, hyes, hno⟩ := w
        refine wpAny_handleBy_cons (codeAny_handlers_test ?_) (by intro q; cases q)
        have LM := PySem.W.exm_one (M := model X.prog X.w) (J3.kIn) LT hb1
        refine test hc (LM.here ?_)
        cases b with
        | true =>
          refine codeAny_handlers_suite ?_
          refine HandSPX.lands_againZ fl3 fun h4 fl4 up4 => ?_
          have J4 : L2.Inv X pins σ' H' { s' with heap := h4 } := J.landed nb fl4.1 ((up.trans up3).trans up4) os ag
          obtain ⟨oe4, vs4, he4, hz4, hd4⟩ := fl4.there
          have S4 := J4.suite he4 hd4 na nL nF
          refine wpAny_mono ((hsu a oe4 cls d (X.pn ++ pins) hz4 ⟨_, hd4⟩).run [] _ _ H' _ S4 (hyes rfl a na)) (fun f s6 hsp => ?_) (fun _ _ z => False.elim z)
          cases f with
          | next =>
            obtain ⟨σ6, H6, S6, q6⟩ := hsp
            exact ⟨_, _, S6.unsuite ok, q6⟩
          | brk =>
            obtain ⟨σ6, H6, S6, q6⟩ := hsp
            exact ⟨_, _, S6.unsuite ok, q6⟩
          | cont =>
            obtain ⟨σ6, H6, S6, q6⟩ := hsp
            exact ⟨_, _, S6.unsuite ok, q6⟩
          | ret u =>
            obtain ⟨v6, σ6, H6, S6, r6, q6⟩ := hsp
            exact ⟨_, _, _, S6.unsuite ok, r6, q6⟩
        | false =>
          show wpAny _ X.A (handleBy (.ref a) X.env hds2) _ _ _
          exact ih (hno rfl)
      | @as_ x n c i ts b₀ suite np pos' hds2 l2 hc hi hln hsu r ih =>
        intro w
        obtain ⟨b, hb1, hyes, hno⟩ := w
        have hloc : Loc X.env.scope n := .inl hln
        refine wpAny_handleBy_cons (codeAny_handlers_test ?_) (by intro q; cases q)
        have LM := PySem.W.exm_one (M := model X.prog X.w) (J3.kIn) LT hb1
        refine test hc (LM.here ?_)
        cases b with
        | true =>
          refine codeAny_handlers_suite_as ?_
          refine HandSPX.lands_againZ fl3 fun h4 fl4 up4 => ?_
          have J4 : L2.Inv X pins σ' H' { s' with heap := h4 } := J.landed nb fl4.1 ((up.trans up3).trans up4) os ag
          obtain ⟨oe4, vs4, he4, hz4, hd4⟩ := fl4.there
          have S4 := J4.suite he4 hd4 na nL nF
          refine store_ok (X := X.suite a ((a, oe4) :: (X.pn ++ pins))) (v := .ref a) S4 hN hi hloc rfl (fun s5 S5 => ?_) (.inr hln)
          refine wpAny_mono ((hsu a oe4 cls d (X.pn ++ pins) hz4 ⟨_, hd4⟩).run [] s5 _ H' _ S5 (hyes rfl a na)) (fun f s6 hsp => ?_) (fun _ _ z => False.elim z)
          have end_ : ∀ {σ6 : L2.St} {H6 : Hp} {Q : Shared → Prop}, L2.Inv (X.suite a ((a, oe4) :: (X.pn ++ pins))) [] σ6 H6 s6 → (∀ s7, L2.Inv X pins (σ6.set i none) H6 s7 → Q s7) →
              wpAny (model X.prog X.w) X.A (do bindName X.env n .none; unbindBehindTheSuite X.env n pos') (fun _ s7 => Q s7) X.xe s6 := fun {σ6 H6 Q} S6 hq => gone_ok (S6.unsuite ok) hN hi hln hq
          cases f with
          | next =>
            obtain ⟨σ6, H6, S6, q6⟩ := hsp
            exact end_ S6 fun s7 J7 => ⟨_, _, J7, q6⟩
          | brk =>
            obtain ⟨σ6, H6, S6, q6⟩ := hsp
            exact end_ S6 fun s7 J7 => ⟨_, _, J7, q6⟩
          | cont =>
            obtain ⟨σ6, H6, S6, q6⟩ := hsp
            exact end_ S6 fun s7 J7 => ⟨_, _, J7, q6⟩
          | ret u =>
            obtain ⟨v6, σ6, H6, S6, r6, q6⟩ := hsp
            exact end_ S6 fun s7 J7 => ⟨_, _, _, J7, r6, q6⟩
        | false =>
          show wpAny _ X.A (handleBy (.ref a) X.env hds2) _ _ _
          exact ih (hno rfl)
    exact go hh w
  · cases f with
    | next =>
      obtain ⟨σ', H', J', q⟩ := hsp
      exact wpAny_execs_nil ⟨σ', H', J'.ofTry ok, q⟩
    | brk =>
      obtain ⟨σ', H', J', q⟩ := hsp
      exact ⟨σ', H', J'.ofTry ok, q⟩
    | cont =>
      obtain ⟨σ', H', J', q⟩ := hsp
      exact ⟨σ', H', J'.ofTry ok, q⟩
    | ret u =>
      obtain ⟨v, σ', H', J', r, q⟩ := hsp
      exact ⟨v, σ', H', J'.ofTry ok, r, q⟩
end
section
variable {X : Cx} {G : GI} {Wx : WX} {f : ME → SL → HH → R O} {F F1 : Fz} {r r1 : List Addr} {H H1 : Hp} {R L L1 : List Addr} {σ σ1 : L2.St} {s s1 : SL} {h h1 : HH}
theorem takes_len {W : L2.WX} (tk : Takes X W) : Takes X (fun c d σ H => σ.length = X.N.length → W c d σ H) := fun u s' ⟨a, B, sI, pins, σ, H, cls, d, e, I, nb, up, sky, na, os, ag, w⟩ =>
  tk u s' ⟨a, B, sI, pins, σ, H, cls, d, e, I, nb, up, sky, na, os, ag, w I.len⟩
/-- the clauses: return (word, e.field) | return (word, None) -/
inductive HR (X : Cx) (G : GI) : List ExceptHandler → List (Nat × W × Bool) → List Hd → Prop
  | nil : HR X G [] [] []
  | fld {x n fl wd : Str} {w : List Nat} {c i j k : Nat} {np p1 p2 p3 p4 p5 p6 : Pos} {hds : List ExceptHandler} {hs : List (Nat × W × Bool)} {l : List Hd} : ClsOk X.prog X.w X.K X.mg X.base G.toGS x c fl → Names X x (.ref (G.ca c)) → X.N[i]? = some n → X.env.kindOf n = some .local →
      (n == ("__debug__" : Str)) = false → (n == ("__classdict__" : Str)) = false → wd = ⟨w.toArray⟩ → HR X G hds hs l →
      HR X G (.ExceptHandler (some (.Name x np)) (some n) [.Return (some (.Tuple [.Constant (.str wd) j p1, .Attribute (.Name n p2) fl p3] k p4)) p5] p6 :: hds) ((c, .str w, true) :: hs)
        ((.ref (G.ca c), some i, fun a cls d => tRet (tTup (tCons (tC (.str wd)) (tCons (tXf a cls d (G.ca c) fl (tVar i)) tNil)))) :: l)
  | nonN {x n fl wd : Str} {w : List Nat} {c i j j2 k : Nat} {np p1 p2 p4 p5 p6 : Pos} {hds : List ExceptHandler} {hs : List (Nat × W × Bool)} {l : List Hd} : ClsOk X.prog X.w X.K X.mg X.base G.toGS x c fl → Names X x (.ref (G.ca c)) → X.N[i]? = some n → X.env.kindOf n = some .local →
      wd = ⟨w.toArray⟩ → HR X G hds hs l →
      HR X G (.ExceptHandler (some (.Name x np)) (some n) [.Return (some (.Tuple [.Constant (.str wd) j p1, .Constant .none j2 p2] k p4)) p5] p6 :: hds) ((c, .str w, false) :: hs)
        ((.ref (G.ca c), some i, fun _ _ _ => tRet (tTup (tCons (tC (.str wd)) (tCons (tC .non) tNil)))) :: l)
  | non0 {x fl wd : Str} {w : List Nat} {c j j2 k : Nat} {np p1 p2 p4 p5 p6 : Pos} {hds : List ExceptHandler} {hs : List (Nat × W × Bool)} {l : List Hd} : ClsOk X.prog X.w X.K X.mg X.base G.toGS x c fl → Names X x (.ref (G.ca c)) →
      wd = ⟨w.toArray⟩ → HR X G hds hs l →
      HR X G (.ExceptHandler (some (.Name x np)) none [.Return (some (.Tuple [.Constant (.str wd) j p1, .Constant .none j2 p2] k p4)) p5] p6 :: hds) ((c, .str w, false) :: hs)
        ((.ref (G.ca c), none, fun _ _ _ => tRet (tTup (tCons (tC (.str wd)) (tCons (tC .non) tNil)))) :: l)
theorem HR.hdM {hds : List ExceptHandler} {hs : List (Nat × W × Bool)} {l : List Hd} (h : HR X G hds hs l) : HdM X hds l := by
  induction h with
  | nil => exact .nil
  | fld ok hn hi hl hd hcd _ _ ih => exact .as_ hn hi hl (fun a oe cls d pn hz hv => pss_one (ps_ret (pe_tup (pa_cons pe_str (pa_cons (pe_xf ok.xf ok.hno hz hv (pe_var hi (.inl hl) hd hcd)) pa_nil))))) ih
  | nonN ok hn hi hl _ _ ih => exact .as_ hn hi hl (fun a oe cls d pn hz hv => pss_one (ps_ret (pe_tup (pa_cons pe_str (pa_cons pe_non pa_nil))))) ih
  | non0 ok hn _ _ ih => exact .no hn (fun a oe cls d pn hz hv => pss_one (ps_ret (pe_tup (pa_cons pe_str (pa_cons pe_non pa_nil))))) ih
theorem ret_pair {D : Ends} {w x : W} {v u : V} (b : Bh G F r H R σ F1 r1 H1 L1 s1) (wi : WI G F1 r1 H1 h1 (L1 ++ R)) (q1 : RW G F1 r1 H1 w v) (q2 : RW G F1 r1 H1 x u) (out : PF G F r H R D (.ret (.sh (.tup [w, x]))) s1 h1) {p : Addr} (np : H1 p = none) : D.rt (.ref p) (upd H1 p (.tup [v, u])) := by
  have l := Le.new wi np (.tup [v, u])
  have kp : ∀ b ∈ L1 ++ R, upd H1 p (.tup [v, u]) b = H1 b := fun b hb => upd_ne (wi.ne hb np)
  exact out F1 r1 _ L1 σ (.ref p) [] ⟨b.le.trans l, b.rs.mono l fun y hy => kp y (List.mem_append_left _ hy), fun y hy => (kp y (List.mem_append_right _ hy)).trans (b.kp y hy)⟩ (.sh (.tup upd_same (.cons (q1.mono l) (.cons (q2.mono l) .nil)))) (wi.newT np _)
theorem HR.sem {hds : List ExceptHandler} {hs : List (Nat × W × Bool)} {l : List Hd} (hr : HR X G hds hs l) {D : Ends} {c : Nat} {ws : List W} {cls : Value} {d : Option Addr} {σ2 : L2.St} (hl : σ2.length = X.N.length) (b : Bh G F r H R σ F1 r1 H1 L1 s1) (wi : WI G F1 r1 H1 h1 (L1 ++ R)) (x : XR G F1 r1 H1 c ws cls d)
    (exm : ∀ y c' fl, ClsOk X.prog X.w X.K X.mg X.base G.toGS y c' fl → PySem.W.exmOne X.K (.ref (G.ca c)) (.ref (G.ca c')) = some (decide (c = c'))) (out : Out (tryK hs c ws s1 h1) (PF G F r H R D) (EKS G Wx F r H R)) : wM X.K (fun c d _ H => Wx c d H) D l cls d σ2 H1 := by
  have ec := x.2.1
  have sz : 2 ≤ sizeLine := by decide
  have look : ∀ {c' : Nat} {p : W × Bool} {hs : List (Nat × W × Bool)}, decide (c = c') = false → ((c', p) :: hs).lookup c = hs.lookup c := fun {c' p hs} e => by
    have : (c == c') = false := by simpa using e
    simp [List.lookup, this]
  induction hr with
  | nil => exact out F1 r1 H1 L1 σ cls d b wi x
  | @fld y n fl wd w c' i j k np p1 p2 p3 p4 p5 p6 hds hs l ok hn hi hk hd hcd ew r ih =>
    refine ⟨decide (c = c'), by rw [ec]; exact exm _ _ _ ok, fun e => ?_, fun e => ih ?_⟩
    · have e := of_decide_eq_true e
      subst e
      intro a na
      unfold tryK at out
      simp only [List.lookup, beq_self_eq_true] at out
      split at out
      · rename_i x0
        obtain ⟨dx, f0, v, e1, e2, e3, e4⟩ := x.2.2
        rw [ok.cf] at e2
        cases e2
        have hlt : i < σ2.length := by rw [hl]; exact (List.getElem?_eq_some_iff.mp hi).1
        refine ⟨.ref a, List.getElem?_set_self hlt, rfl, ec, dx, [(fl, v)], v, e1, e3, by simp [List.lookup], sz, fun p np => ?_⟩
        exact ret_pair b wi (by rw [ew]; exact .str w) e4 out np
      · exact out.elim
    · unfold tryK at out ⊢
      rw [look e] at out
      exact out
  | @nonN y n fl wd w c' i j j2 k np p1 p2 p4 p5 p6 hds hs l ok hn hi hk ew r ih =>
    refine ⟨decide (c = c'), by rw [ec]; exact exm _ _ _ ok, fun e => ?_, fun e => ih ?_⟩
    · have e := of_decide_eq_true e
      subst e
      intro a na
      unfold tryK at out
      simp only [List.lookup, beq_self_eq_true] at out
      exact ⟨sz, fun p np => ret_pair b wi (by rw [ew]; exact .str w) .non out np⟩
    · unfold tryK at out ⊢
      rw [look e] at out
      exact out
  | @non0 y fl wd w c' j j2 k np p1 p2 p4 p5 p6 hds hs l ok hn ew r ih =>
    refine ⟨decide (c = c'), by rw [ec]; exact exm _ _ _ ok, fun e => ?_, fun e => ih ?_⟩
    · have e := of_decide_eq_true e
      subst e
      intro a na
      unfold tryK at out
      simp only [List.lookup, beq_self_eq_true] at out
      exact ⟨sz, fun p np => ret_pair b wi (by rw [ew]; exact .str w) .non out np⟩
    · unfold tryK at out ⊢
      rw [look e] at out
      exact out
theorem ps_mtry {e : Expr} {m : ME} {h₀ : ExceptHandler} {hds : List ExceptHandler} {hs : List (Nat × W × Bool)} {l : List Hd} {pos rpos : Pos} (hst : X.stack = X.env :: X.outer) (hf : X.env.frame = some X.env.locals) (hN : X.N.Nodup) (tk : Takes X (fun c d _ H => Wx c d H))
    (he : ∀ (W' : WX) (pn : List (Addr × Obj)) (xe : Value → Shared → Prop), Takes (X.tr pn xe) (fun c d _ H => W' c d H) → PE (X.tr pn xe) e (TM G W' (f m)))
    (exm : ∀ c, G.cok c → ∀ y c' fl, ClsOk X.prog X.w X.K X.mg X.base G.toGS y c' fl → PySem.W.exmOne X.K (.ref (G.ca c)) (.ref (G.ca c')) = some (decide (c = c'))) (hr : HR X G (h₀ :: hds) hs l) :
    PS X (.Try [.Return (some e) rpos] (h₀ :: hds) [] [] pos) (TMS G Wx fun s h => match f m s h with
      | .ok o s h => .ok (.ret o) s h
      | .exc c ws s h => tryK hs c ws s h
      | .fail => .fail) := by
  refine (ps_tryM (Wout := fun c d _ H => Wx c d H) (tb := fun W D σ H => ∃ W' : WX, (∀ c d σ H, W' c d H → σ.length = X.N.length → W c d σ H) ∧ TM G W' (f m) σ H D.rt) hst hf hN tk (fun W pn xe htk hpo => ⟨fun pins s σ H D I ⟨W', hw, q⟩ => ?_⟩) hr.hdM).weak ?_
  · have t2 : Takes (X.tr pn xe) (fun c d _ H => W' c d H) := (takes_len htk).imp fun c d σ H z hl => hw c d σ H z hl
    exact (pss_one (ps_ret (he W' pn xe t2))).run pins s σ H D I q
  · rintro D σ H ⟨F, r, s, h, L, R, a0, out⟩
    dsimp only at out
    refine ⟨fun cls d H' => ∀ σ2 : L2.St, σ2.length = X.N.length → wM X.K (fun c d _ H => Wx c d H) D l cls d σ2 H', fun c d σ H z hl => z σ hl, F, r, s, h, L, R, a0, ?_⟩
    cases ef : f m s h with
    | fail => rw [ef] at out; exact out
    | ok o s1 h1 =>
      rw [ef] at out
      exact fun F1 r1 H1 L1 v M b ro wi => out F1 r1 H1 L1 σ v M b ro wi
    | exc c ws s1 h1 =>
      rw [ef] at out
      exact fun F1 r1 H1 L1 cls d b wi x σ2 hl => hr.sem hl b wi x (exm c x.1) out
end
end Mini
set_option Elab.async false
set_option linter.all false
set_option maxRecDepth 100000
set_option maxHeartbeats 1000000
/-! Mini: extend; a dict's place is set. -/
namespace Mini
open PySem L2
section
variable {G : GI} {Wx : WX} {X : Cx} {f : ME → SL → HH → R O} {F F1 : Fz} {r r1 : List Addr} {H H1 : Hp} {R L L1 : List Addr} {σ σ1 : L2.St} {s s1 : SL} {h h1 : HH}
theorem extO_ok {o : O} {v : V} {M : List Addr} {ys : List O} (q : RO G F r H o v M) (e : extO o = some ys) : ∃ b zs M0, v = .ref b ∧ H b = some (.lst zs) ∧ ROs G F r H ys zs M0 ∧ (M = b :: M0 ∨ M = M0) := by
  cases q with
  | sh q =>
    rename_i w
    cases w with
    | lst xs =>
      cases e
      cases q with
      | lst fa ha qa => exact ⟨_, _, [], rfl, ha, ROs.shs qa, .inr rfl⟩
    | _ => cases e
  | lst ha qa => cases e; exact ⟨_, _, _, rfl, ha, qa, .inl rfl⟩
  | tup _ _ => cases e
  | dicK _ _ _ => cases e
  | dicT _ _ _ => cases e
theorem ps_mext {i : Nat} {e : ME} {x : Str} {p : Pos} {ee : Expr} {apos cpos pos : Pos} (hv : PE X (.Name x p) (tVar i)) (hi : plainE ee = true) (hl : (apos.endLine == cpos.line) = true) (he : PE X ee (TM G Wx (f e))) :
    PS X (.Expr (.Call (.Attribute (.Name x p) "extend" apos) [ee] [] cpos) pos) (TMS G Wx fun s h => match s[i]? with
      | some (some (.lst _)) => (f e s h).bind fun v s h => match s[i]?, extO v with
        | some (some (.lst xs)), some ys => if xs.length + ys.length ≤ line then .ok .next (s.set i (some (.lst (xs ++ ys)))) h else .fail
        | _, _ => .fail
      | _ => .fail) := by
  refine (ps_expr (pe_bm F.plainAttrs_list F.slot_list_extend rfl mt_extend (hv.weak (t' := fun σ H Q => ∃ v, σ[i]? = some (some v) ∧ Q v H) fun _ _ _ z => z) (pa_cons he pa_nil (plain_star hi)) (plain_base (e := .Name x p) rfl rfl) (by rw [plain_star hi]; rfl) hl (plain_star hi) rfl)).weak ?_
  rintro D σ H ⟨F, r, s, h, L, R, a0, out⟩
  dsimp only at out
  split at out
  · rename_i xs0 ei
    obtain ⟨l0, vs0, Lx0, Lo0, e1, e2, _⟩ := own_upd a0 ei
    refine ⟨.ref l0, e1, ?_⟩
    have ty : tyV X.K "list" (.ref l0) H := .inl ⟨rfl, vs0, .of e2⟩
    refine ⟨ty, F, r, s, h, L, R, a0, (Out.cases out).mono (fun o s2 h2 o2 => ?_) (fun _ _ _ _ z => z.ek)⟩
    intro F2 r2 H2 L2 x M b2 ro wi2
    split at o2
    · rename_i xs ys ej ey
      split at o2
      · rename_i hz
        have a2 := b2.at wi2.right
        obtain ⟨l, vs, Lx, Lo, g1, g2, q, pm, hl2, up⟩ := own_upd a2 ej
        rw [e1] at g1
        cases g1
        obtain ⟨b, zs, M0, rfl, hb, qz, hM⟩ := extO_ok ro ey
        refine ⟨l0, b, vs, zs, rfl, rfl, g2, hb, by rw [← q.len, ← qz.len, ← line_eq]; exact hz, ?_⟩
        have wi3 : WI G F2 r2 H2 h2 (M0 ++ (L2 ++ R)) := by
          rcases hM with e | e
          · rw [e] at wi2
            exact WI.right (L := [b]) wi2
          · rw [e] at wi2; exact wi2
        have lin : l0 ∈ M0 ++ (L2 ++ R) := List.mem_append_right _ (List.mem_append_left _ hl2)
        have le := Le.own wi3 lin (by rw [g2]; simp) (by rw [g2]; simp) (.lst (vs ++ zs))
        have nl : ∀ b ∈ Lx, b ≠ l0 := fun b hb ee => by
          have nd := pm.nodup_iff.mp (List.nodup_append.mp a2.wi.nodup).1
          exact (List.nodup_cons.mp nd).1 (ee ▸ List.mem_append_left _ hb)
        have nM : ∀ b ∈ M0, b ≠ l0 := fun b hb ee => (List.nodup_append.mp wi3.nodup).2.2 b hb l0 (List.mem_append_left _ hl2) ee
        have lR : ∀ b ∈ R, b ≠ l0 := fun b hb ee => (List.nodup_append.mp a2.wi.nodup).2.2 l0 hl2 b hb ee.symm
        obtain ⟨L', rs', pm'⟩ := up (xs ++ ys) (vs ++ zs) (Lx ++ M0) (ROs.append (q.mono le fun b hb => upd_ne (nl b hb)) (qz.mono le fun b hb => upd_ne (nM b hb)))
        refine o2 F2 r2 _ L' σ ⟨b2.le.trans le, rs', fun b hb => (upd_ne (lR b hb)).trans (b2.kp b hb)⟩ ((WI.own wi3 lin (by rw [g2]; simp) (by rw [g2]; simp) _).perm ?_)
        rw [← List.append_assoc]
        refine List.Perm.append_right R (List.Perm.trans (List.Perm.append_left M0 pm) (List.Perm.trans ?_ pm'.symm))
        refine List.perm_middle.trans (List.Perm.cons l0 ?_)
        rw [← List.append_assoc]
        exact List.perm_append_comm.append_right Lo
      · exact o2.elim
    · exact o2.elim
  · exact out.elim
/-! ### d[k] = v -/
section
variable {κ : Type} [DecidableEq κ] {toK : W → Option κ}
theorem putV_ok {k : W} {kk : κ} {o : O} {v : V} {M : List Addr} (ro : RO G F r H o v M) (hs : ∀ x y, toK x = some y → (sameK x k = true ↔ y = kk)) : ∀ {ks : List W} {vs : List O} {kvs : List (κ × V)} {Lx : List Addr} {rr : List O} {b : Bool}, ks.map toK = kvs.map (fun p => some p.1) → ROs G F r H vs (kvs.map (·.2)) Lx →
    putV? k o ks vs = some (rr, b) → (b = kvs.any fun kv => decide (kv.1 = kk)) ∧ (b = false → rr = vs ∧ (kvs.map fun kv => if kv.1 = kk then (kv.1, v) else kv) = kvs) ∧
      (b = true → ∃ Lx' Dd, (Lx ++ M).Perm (Lx' ++ Dd) ∧ ROs G F r H rr ((kvs.map fun kv => if kv.1 = kk then (kv.1, v) else kv).map (·.2)) Lx')
  | [], vs, [], Lx, rr, b, _, q, e => by
    cases q
    cases e
    exact ⟨rfl, fun _ => ⟨rfl, rfl⟩, fun z => by cases z⟩
  | [], _, _ :: _, _, _, _, e, _, _ => by simp at e
  | _ :: _, _, [], _, _, _, e, _, _ => by simp at e
  | x :: ks, _, (kx, u) :: kvs, _, rr, b, e, .cons (x := y) (L := L1) (M := L2) a c, e2 => by
    simp only [List.map_cons, List.cons.injEq] at e
    unfold putV? at e2
    split at e2
    · rename_i r0 b0 e3
      obtain ⟨h1, h2, h3⟩ := putV_ok ro hs e.2 c e3
      by_cases hx : sameK x k = true
      · rw [if_pos hx] at e2
        cases b0 with
        | true => simp at e2
        | false =>
          simp only [Bool.false_eq_true, if_false, Option.some.injEq, Prod.mk.injEq] at e2
          obtain ⟨rfl, rfl⟩ := e2
          have ek := (hs x kx e.1).mp hx
          obtain ⟨er, em⟩ := h2 rfl
          refine ⟨by simp [ek], fun z => (by cases z), fun _ => ⟨M ++ L2, L1, ?_, ?_⟩⟩
          · have z1 : ((L1 ++ L2) ++ M).Perm (L1 ++ (M ++ L2)) := by
              rw [List.append_assoc]
              exact List.Perm.append_left L1 List.perm_append_comm
            exact z1.trans List.perm_append_comm
          · rw [List.map_cons, em, if_pos ek]
            exact .cons ro c
      · rw [if_neg hx] at e2
        simp only [Option.some.injEq, Prod.mk.injEq] at e2
        obtain ⟨rfl, rfl⟩ := e2
        have ek : ¬ kx = kk := fun z => hx ((hs x kx e.1).mpr z)
        refine ⟨by rw [h1]; simp [ek], fun z => ?_, fun z => ?_⟩
        · obtain ⟨er, em⟩ := h2 z
          exact ⟨by rw [er], by rw [List.map_cons, em, if_neg ek]⟩
        · obtain ⟨Lx', Dd, pm, q⟩ := h3 z
          refine ⟨L1 ++ Lx', Dd, ?_, ?_⟩
          · rw [List.append_assoc, List.append_assoc]
            exact List.Perm.append_left L1 pm
          · rw [List.map_cons, if_neg ek]
            exact .cons a q
    · cases e2
theorem putD_ok {k : W} {kk : κ} {o : O} {v : V} {M : List Addr} (ro : RO G F r H o v M) (hk : toK k = some kk) (hs : ∀ x y, toK x = some y → (sameK x k = true ↔ y = kk)) {ks ks' : List W} {vs vs' : List O} {kvs : List (κ × V)} {Lx : List Addr} (e : ks.map toK = kvs.map (fun p => some p.1)) (q : ROs G F r H vs (kvs.map (·.2)) Lx)
    (ep : putD k o ks vs = some (ks', vs')) (hlen : kvs.length < sizeLine ∨ ∃ b, putV? k o ks vs = some (b, true)) : ∃ Lx' Dd, (Lx ++ M).Perm (Lx' ++ Dd) ∧ ROs G F r H vs' ((putK kvs kk v).map (·.2)) Lx' ∧ ks'.map toK = (putK kvs kk v).map (fun p => some p.1) := by
  unfold putD at ep
  split at ep
  · rename_i rr b e1
    obtain ⟨h1, h2, h3⟩ := putV_ok ro hs e q e1
    cases b with
    | true =>
      simp only [if_true, Option.some.injEq, Prod.mk.injEq] at ep
      obtain ⟨rfl, rfl⟩ := ep
      obtain ⟨Lx', Dd, pm, q'⟩ := h3 rfl
      unfold putK
      rw [if_pos h1.symm]
      refine ⟨Lx', Dd, pm, q', ?_⟩
      rw [e, List.map_map]
      refine List.map_congr_left fun p _ => ?_
      show some p.1 = some (if p.1 = kk then (p.1, v) else p).1
      split <;> rfl
    | false =>
      obtain ⟨er, _⟩ := h2 rfl
      simp only [Bool.false_eq_true, if_false] at ep
      split at ep
      · simp only [Option.some.injEq, Prod.mk.injEq] at ep
        obtain ⟨rfl, rfl⟩ := ep
        unfold putK
        rw [if_neg (by rw [← h1]; simp)]
        refine ⟨Lx ++ (M ++ []), [], by simp, ?_, ?_⟩
        · rw [List.map_append, er]
          exact ROs.append q (.cons ro .nil)
        · rw [List.map_append, List.map_append, e]
          simp [hk]
      · cases ep
  · cases ep
end
theorem keyA_same {x k : W} {kk y : Key} (hk : keyA k = true) (ek : kOf k = some kk) (e : kOf x = some y) : sameK x k = true ↔ y = kk := by
  have hx : keyA x = true := by cases x <;> first | rfl | (cases e; done)
  rw [sameK_kOf x k hx hk, e, ek]
  simp
theorem keyT_same {x : W} {ks : List W} {kk y : List Key} (hk : ks.all keyA = true) (ek : ksOf ks = some kk) (e : ktOf x = some y) : sameK x (.tup ks) = true ↔ y = kk := by
  obtain ⟨xs, ex⟩ : ∃ xs, x = .tup xs := by cases x <;> first | exact ⟨_, rfl⟩ | (cases e; done)
  subst ex
  have hx : xs.all keyA = true := ksOf_keyA (show ksOf xs = some y from e)
  show sameKs xs ks = true ↔ _
  rw [sameKs_ksOf xs ks hx hk, show ksOf xs = some y from e, ek]
  simp
/-- a dict of a slot -/
theorem own_dic (a : At G F r H R σ s h L) {j : Nat} {t : Bool} {ks : List W} {xs : List O} (e : s[j]? = some (some (.dic t ks xs))) : ∃ l Lx Lo, σ[j]? = some (some (.ref l)) ∧ RO G F r H (.dic t ks xs) (.ref l) (l :: Lx) ∧ L.Perm (l :: (Lx ++ Lo)) ∧ l ∈ L ∧
    ∀ {H' : Hp} {ks' : List W} {xs' : List O} {Lx' : List Addr}, Le F r H F r H' → (∀ b, b ≠ l → H' b = H b) → RO G F r H' (.dic t ks' xs') (.ref l) (l :: Lx') → ∃ L', RS G F r H' (s.set j (some (.dic t ks' xs'))) σ L' ∧ L'.Perm (l :: (Lx' ++ Lo)) := by
  have hi := (List.getElem?_eq_some_iff.mp e).1
  obtain ⟨A, M, B, eL, rA, rB, c⟩ := a.rs.split j hi
  rcases c with ⟨e1, _⟩ | ⟨o', v, e1, e2, ro⟩
  · rw [e] at e1; cases e1
  rw [e] at e1
  cases e1
  have main : ∀ {l : Addr} {Lx : List Addr}, v = .ref l → M = l :: Lx → RO G F r H (.dic t ks xs) (.ref l) (l :: Lx) → ∃ l Lx Lo, σ[j]? = some (some (.ref l)) ∧ RO G F r H (.dic t ks xs) (.ref l) (l :: Lx) ∧ L.Perm (l :: (Lx ++ Lo)) ∧ l ∈ L ∧
      ∀ {H' : Hp} {ks' : List W} {xs' : List O} {Lx' : List Addr}, Le F r H F r H' → (∀ b, b ≠ l → H' b = H b) → RO G F r H' (.dic t ks' xs') (.ref l) (l :: Lx') → ∃ L', RS G F r H' (s.set j (some (.dic t ks' xs'))) σ L' ∧ L'.Perm (l :: (Lx' ++ Lo)) := by
    intro l Lx ev eM ro
    subst ev eM
    have hlL : l ∈ L := by rw [eL]; simp
    have nd := (List.nodup_append.mp a.wi.nodup).1
    rw [eL] at nd
    have neA : ∀ b ∈ A, b ≠ l := fun b hb ee => (List.nodup_append.mp nd).2.2 b hb l (by simp) ee
    have neB : ∀ b ∈ B, b ≠ l := fun b hb ee => by
      have := (List.nodup_append.mp nd).2.1
      exact (List.nodup_append.mp this).2.2 l (by simp) b hb ee.symm
    refine ⟨l, Lx, A ++ B, e2, ro, ?_, hlL, fun {H' ks' xs' Lx'} le ne ro' => ⟨A ++ ((l :: Lx') ++ B), ?_, ?_⟩⟩
    · rw [eL]
      have p1 : (A ++ ((l :: Lx) ++ B)).Perm ((l :: Lx) ++ (A ++ B)) := List.perm_append_comm_assoc ..
      exact p1.trans (by simp)
    · have qq := RS.mk (M := l :: Lx') hi a.rs.len (rA.mono le fun b hb => ne b (neA b hb)) (rB.mono le fun b hb => ne b (neB b hb)) ro'
      rw [set_get e2] at qq
      exact qq
    · have p1 : (A ++ ((l :: Lx') ++ B)).Perm ((l :: Lx') ++ (A ++ B)) := List.perm_append_comm_assoc ..
      exact p1.trans (by simp)
  cases ro with
  | dicK h1 h2 h3 => exact main rfl rfl (.dicK h1 h2 h3)
  | dicT h1 h2 h3 => exact main rfl rfl (.dicT h1 h2 h3)
theorem plain_subD {o i : Expr} {p : Pos} {env : Env} (h : plainE i = true) : ∀ v, assign (.Subscript o i p) env v = (do
    let ov ← holding [v] (eval o env)
    let iv ← holding [v, ov] (eval i env)
    standAt p
    holding [v, ov, iv] (setItem ov iv v)
    release [v, ov, iv] []) := by
  cases i <;> first | (intro v; rfl) | cases h
theorem dic_len {t : Bool} {ks : List W} {xs : List O} {l : Addr} {Lx : List Addr} (q : RO G F r H (.dic t ks xs) (.ref l) (l :: Lx)) : (t = false ∧ ∃ kvs : List (Key × V), H l = some (.dK kvs) ∧ ks.map kOf = kvs.map (fun p => some p.1) ∧ ROs G F r H xs (kvs.map (·.2)) Lx) ∨ (t = true ∧ ∃ kvs : List (List Key × V), H l = some (.dT kvs) ∧ ks.map ktOf = kvs.map (fun p => some p.1) ∧ ROs G F r H xs (kvs.map (·.2)) Lx) := by
  cases q with
  | dicK h1 h2 h3 => exact .inl ⟨rfl, _, h1, h2, h3⟩
  | dicT h1 h2 h3 => exact .inr ⟨rfl, _, h1, h2, h3⟩
theorem ps_mstD {i : Nat} {ke e : ME} {x : Str} {p p' pos : Pos} {ek ev : Expr} (hu : X.A.units + 1 < cLine) (hv : PE X (.Name x p) (tVar i)) (he : PE X ev (TM G Wx (f e))) (hk : PE X ek (TMd G Wx (evD f ke))) (hpl : plainE ek = true) :
    PS X (.Assign [.Subscript (.Name x p) ek p'] ev pos) (TMS G Wx fun s h => (f e s h).bind fun v s h => match s[i]? with
      | some (some (.dic _ _ _)) => (ev1 f ke s h).bind fun k s h => match s[i]? with
        | some (some (.dic t ks vs)) => if keyW t k && decide (ks.length < line) then (match putD k v ks vs with
          | some (ks', vs') => .ok .next (s.set i (some (.dic t ks' vs'))) h
          | none => .fail) else .fail
        | _ => .fail
      | _ => .fail) := by
  refine (ps_asg he (pg_sub hv hk (set_dict hu) (plain_subD hpl)) sw_sub rfl rfl).weak ?_
  rintro D σ H ⟨F, r, s, h, L, R, a0, out⟩
  refine ⟨F, r, s, h, L, R, a0, (Out.cases out).mono (fun v s1 h1 o1 => ?_) (fun _ _ _ _ z => z.ek)⟩
  intro F1 r1 H1 L1 xv M b1 ro wi1
  split at o1
  · rename_i t0 ks0 vs0 ei
    have a1 := b1.at wi1.right
    obtain ⟨l0, Lx0, Lo0, e1, _, _, _, _⟩ := own_dic a1 ei
    refine ⟨.ref l0, e1, ?_⟩
    have wiM : WI G F1 r1 H1 h1 (L1 ++ (M ++ R)) := wi1.perm (List.perm_append_comm_assoc ..)
    refine ⟨F1, r1, s1, h1, L1, M ++ R, ⟨b1.rs, wiM⟩, (Out.cases (Out.cases o1)).mono (fun d s2 h2 o2 => ?_) (fun _ _ _ _ z => EK.tr b1 z.ek)⟩
    intro F2 r2 H2 L2 kv b2 rd wi2
    obtain ⟨kw, e3, o3⟩ := Out.ofO o2
    have vk := RD.view (b2.at wi2) rd e3
    split at o3
    · rename_i t ks vs ej
      split at o3
      · rename_i hc
        rw [Bool.and_eq_true, decide_eq_true_eq] at hc
        obtain ⟨hkw, hlen⟩ := hc
        split at o3
        · rename_i ks' vs' ep
          have a2 := b2.at wi2
          obtain ⟨l, Lx, Lo, g1, rd0, pm, hl, up⟩ := own_dic a2 ej
          rw [e1] at g1
          cases g1
          have ro2 : RO G F2 r2 H2 v xv M := ro.mono b2.le fun b hb => b2.kp b (List.mem_append_left _ hb)
          have lin : l0 ∈ L2 ++ (M ++ R) := List.mem_append_left _ hl
          have nMl : ∀ b ∈ M, b ≠ l0 := fun b hb ee => (List.nodup_append.mp wi2.nodup).2.2 l0 hl b (List.mem_append_left _ hb) ee.symm
          have lR : ∀ b ∈ R, b ≠ l0 := fun b hb ee => (List.nodup_append.mp wi2.nodup).2.2 l0 hl b (List.mem_append_right _ hb) ee.symm
          have nl : ∀ b ∈ Lx, b ≠ l0 := fun b hb ee => by
            have nd := pm.nodup_iff.mp (List.nodup_append.mp wi2.nodup).1
            exact (List.nodup_cons.mp nd).1 (ee ▸ List.mem_append_left _ hb)
          have fin : ∀ {o : HO} {Lx' Dd : List Addr}, (Lx ++ M).Perm (Lx' ++ Dd) → (∀ xs, H2 l0 ≠ some (.tup xs)) → (∀ o u φ ps, H2 l0 ≠ some (.frz o u) ∧ H2 l0 ≠ some (.ext φ) ∧ H2 l0 ≠ some (.tbl ps)) →
              (Le F2 r2 H2 F2 r2 (upd H2 l0 o) → (∀ b, b ≠ l0 → upd H2 l0 o b = H2 b) → RO G F2 r2 (upd H2 l0 o) (.dic t ks' vs') (.ref l0) (l0 :: Lx')) → D.nx σ (upd H2 l0 o) := by
            intro o Lx' Dd pmx n1 n2 mk
            have le := Le.own wi2 lin n1 n2 o
            have w3 := WI.own wi2 lin n1 n2 o
            have ne : ∀ b, b ≠ l0 → upd H2 l0 o b = H2 b := fun b hb => upd_ne hb
            obtain ⟨L', rs', pm'⟩ := up le ne (mk le ne)
            refine o3 F2 r2 _ L' σ ⟨(b1.le.trans b2.le).trans le, rs', fun b hb => (ne b (lR b hb)).trans ((b2.kp b (List.mem_append_right _ hb)).trans (b1.kp b hb))⟩ (WI.right (L := Dd) (w3.perm ?_))
            rw [← List.append_assoc, ← List.append_assoc]
            refine List.Perm.append_right R ?_
            refine (pm.append_right M).trans (List.Perm.trans ?_ (List.Perm.append_left Dd pm'.symm))
            have z1 : (Dd ++ (l0 :: (Lx' ++ Lo))).Perm (l0 :: (Dd ++ (Lx' ++ Lo))) := List.perm_middle
            refine List.Perm.trans (List.Perm.cons l0 ?_) z1.symm
            have z2 : ((Lx ++ Lo) ++ M).Perm ((Lx ++ M) ++ Lo) := by
              rw [List.append_assoc, List.append_assoc]
              exact List.Perm.append_left Lx List.perm_append_comm
            refine z2.trans ((pmx.append_right Lo).trans ?_)
            rw [← List.append_assoc]
            exact List.perm_append_comm.append_right Lo
          rcases dic_len rd0 with ⟨rfl, kvs, q1, q2, q3⟩ | ⟨rfl, kvs, q1, q2, q3⟩
          · have ka := keyW_f hkw
            obtain ⟨kk, ekk⟩ := keyA_kOf ka
            have eu : kv = kV kk := by
              cases vk with
              | w p => exact p.key ekk
              | _ => cases ekk
            have hz : kvs.length < sizeLine := by
              have := congrArg List.length q2
              simp only [List.length_map] at this
              rw [← this, ← line_eq]
              exact hlen
            obtain ⟨Lx', Dd, pmx, q', ek'⟩ := putD_ok (toK := kOf) ro2 ekk (fun x y e => keyA_same ka ekk e) q2 q3 ep (.inl hz)
            refine ⟨l0, _, rfl, by rw [eu]; exact DPut.k q1 hz, ?_⟩
            refine fin pmx (by rw [q1]; simp) (by rw [q1]; simp) fun le ne => .dicK upd_same ek' (q'.mono le fun b hb => ne b ?_)
            have : b ∈ Lx ++ M := pmx.mem_iff.mpr (List.mem_append_left _ hb)
            rcases List.mem_append.mp this with z | z
            · exact nl b z
            · exact nMl b z
          · obtain ⟨xs, ex, ka⟩ := keyW_t hkw
            subst ex
            obtain ⟨kk, ekk⟩ := keyAs_ksOf ka
            obtain ⟨b0, us, eu, hb0, qb⟩ := vk.tuple
            have eu2 := qb.keys ekk
            subst eu2
            have hz : kvs.length < sizeLine := by
              have := congrArg List.length q2
              simp only [List.length_map] at this
              rw [← this, ← line_eq]
              exact hlen
            obtain ⟨Lx', Dd, pmx, q', ek'⟩ := putD_ok (toK := ktOf) ro2 (show ktOf (.tup xs) = some kk from ekk) (fun x y e => keyT_same ka ekk e) q2 q3 ep (.inl hz)
            refine ⟨l0, _, rfl, by rw [eu]; exact DPut.t q1 hb0 hz, ?_⟩
            refine fin pmx (by rw [q1]; simp) (by rw [q1]; simp) fun le ne => .dicT upd_same ek' (q'.mono le fun b hb => ne b ?_)
            have : b ∈ Lx ++ M := pmx.mem_iff.mpr (List.mem_append_left _ hb)
            rcases List.mem_append.mp this with z | z
            · exact nl b z
            · exact nMl b z
        · exact o3.elim
      · exact o3.elim
    · exact o3.elim
  · exact o1.elim
end
end Mini
set_option Elab.async false
set_option linter.all false
set_option maxRecDepth 100000
set_option maxHeartbeats 1000000
/-! Mini: all lists of a thing are made longer. -/
namespace Mini
open PySem L2
section
variable {G : GI} {Wx : WX} {X : Cx} {f : ME → SL → HH → R O} {F F1 : Fz} {r r1 : List Addr} {H H1 : Hp} {R L L1 : List Addr} {σ σ1 : L2.St} {s s1 : SL} {h h1 : HH} {k j i : Nat} {ps : List Str} {x y : Str} {p py pos epos : Pos} {cf : CF}
theorem pe_mspl (Fn : FnOk X.prog X.w X.K X.mg X.base (L2.CX X.prog X.w) k (G.fa j) (G.fd j) ps (SpS G.toGS cf j)) (hr : Room k X.A) (hg : Gl X x) (hm : X.mg x = some (.ref (G.fa j))) (hk : PySem.W.keepIn X.K (.ref (G.fa j)) = true) (hb : Binds X.K (G.fd j) ps [])
    (tk : Takes X (fun c d _ H => Wx c d H)) (hdb : (x == ("__debug__" : Str)) = false) {e : Expr} (he : PE X e (tVar i)) (hp : plainE e = true) : PE X (.Call (.Name x p) [e] [] pos) fun σ H Q => ∃ v, σ[i]? = some (some v) ∧ SpS G.toGS cf j [v] H Q fun _ _ _ => False := by
  refine ⟨fun pins s σ H Q I hq => ?_⟩
  refine wpAny_Call_Name_kw (ld_glob I hg hm ?_ hdb)
  obtain ⟨v, ev, sp⟩ := hq
  have z : PA X [e] _ := pa_cons he pa_nil (plain_star hp)
  refine PySem.W.callWith_K (h₀ := X.base) I.ok.mod.kin hk (thn (z.run pos pins s σ H (fun vs H1 => SpS G.toGS cf j vs H1 Q fun _ _ _ => False) I ⟨v, ev, sp⟩) fun us s1 ⟨vs, H1, I1, r, q⟩ => ⟨I1.kIn, ?_⟩) (plain_star hp) (plain_all fun y hy => by cases hy)
  refine run_pub (ws := []) (zs := []) (ks := []) Fn hr (KBinds.ofB hb) tk I1 (cs := []) ⟨fun c o e => by cases e⟩ r .nil ?_
  have e0 : pubH H1 [] = H1 := funext fun _ => rfl
  rw [e0]
  obtain ⟨F, r0, h, o, o', v0, L, R, s', h', q1, q2, q3, q4, q5⟩ := q
  refine ⟨F, r0, h, o, o', v0, L, R, s', h', q1, q2, q3, q4, fun H2 l kp ro w _ => ?_⟩
  have e1 : unpH H2 [] = H2 := funext fun _ => rfl
  rw [e1]
  exact q5 H2 l kp ro w
theorem w_spl : ∀ D σ H, TMS G Wx (fun s h => match s[i]? with
      | some (some o) => (match cf (.spl j) [o] h with
        | .ok o' _ _ => .ok .next (s.set i (some o')) h
        | _ => .fail)
      | _ => .fail) D σ H → tDrop (fun σ H Q => ∃ v, σ[i]? = some (some v) ∧ SpS G.toGS cf j [v] H Q fun _ _ _ => False) D σ H := by
  rintro D σ H ⟨F, r, s, h, L, R, a0, out⟩
  dsimp only at out
  split at out
  · rename_i o eo
    have hi := (List.getElem?_eq_some_iff.mp eo).1
    obtain ⟨A, M, B, eL, rA, rB, c⟩ := a0.rs.split i hi
    rcases c with ⟨z, _⟩ | ⟨o0, v, z1, z2, ro⟩
    · rw [eo] at z; cases z
    rw [eo] at z1
    cases z1
    split at out
    · rename_i o' s' h' ec
      have w1 : WI G F r H h (M ++ ((A ++ B) ++ R)) := a0.wi.perm (by
        rw [eL]
        have z : (A ++ (M ++ B)).Perm (M ++ (A ++ B)) := List.perm_append_comm_assoc ..
        have z2 := z.append_right R
        rw [List.append_assoc M] at z2
        exact z2)
      refine ⟨v, z2, F, r, h, o, o', v, M, (A ++ B) ++ R, s', h', rfl, ro, w1.to0, ec, fun H' l kp ro' w' => ?_⟩
      have lk : ∀ p ∈ G.own, r[p.1]? = some p.2 := a0.wi.lk
      have w2 : WI G F r H' h ((A ++ (M ++ B)) ++ R) := (WI.of0 (G := G) w' lk).perm (by
        have z : (M ++ (A ++ B)).Perm (A ++ (M ++ B)) := List.perm_append_comm_assoc ..
        have z2 := z.append_right R
        rw [List.append_assoc M] at z2
        exact z2)
      have kA : ∀ b ∈ A, H' b = H b := fun b hb => kp b (by simp [hb])
      have kB : ∀ b ∈ B, H' b = H b := fun b hb => kp b (by simp [hb])
      have rs2 : RS G F r H' (s.set i (some o')) (σ.set i (some v)) (A ++ (M ++ B)) := RS.mk hi a0.rs.len (rA.mono l kA) (rB.mono l kB) ro'
      rw [set_get z2] at rs2
      exact out F r H' _ σ ⟨l, rs2, fun b hb => kp b (List.mem_append_right _ hb)⟩ w2
    · exact out.elim
  · exact out.elim
end
end Mini
set_option Elab.async false
set_option linter.all false
set_option maxRecDepth 100000
set_option maxHeartbeats 1000000
/-! Mini: the checker of statements. -/
namespace Mini
open PySem L2
theorem swP2 {o i o' i' : Expr} {p p' pt pt2 : Pos} {kt k2 : Nat} {vs : List Expr} {env : Env} : swappedStores [.Tuple [.Subscript o i p, .Subscript o' i' p'] kt pt] (.Tuple vs k2 pt2) env = pure none := by
  unfold swappedStores
  simp only [pure_bind]
  split
  · rfl
  · split
    · rfl
    · simp
def dist (l : List Str) : Bool := l.eraseDups.length == l.length
def isDComp : ME → Bool
  | .dcomp _ _ _ _ _ _ _ => true
  | _ => false
def isComp : ME → Bool
  | .comp _ _ _ _ _ => true
  | _ => false
def nmLoc (N : List Str) (sc : Scope) (i : Nat) (x : Str) : Bool := slotN N i x && decide (sc.names.lookup x = some .local)
/-- except X as e: return (word, e.field) -/
def chkH (T : Tb) (N : List Str) (sc : Scope) (p : Nat × W × Bool) (hd : ExceptHandler) : Bool := match hd with
  | .ExceptHandler (some (.Name x _)) nm [.Return (some (.Tuple [.Constant (.str wd) _ _, e2] _ _)) _] _ => isGl sc x && (nmOk x && (match T.cls.lookup x with
    | some (c, fl) => decide (c = p.1) && ((match p.2.1 with
      | .str w => decide (wd = ⟨w.toArray⟩)
      | _ => false) && (match nm with
      | some n => N.contains n && (decide (sc.names.lookup n = some .local) && (match e2 with
        | .Attribute (.Name n' _) fl' _ => p.2.2 && (decide (n' = n) && (decide (fl' = fl) && (!(n == ("__debug__" : Str)) && !(n == ("__classdict__" : Str)))))
        | .Constant .none _ _ => !p.2.2
        | _ => false))
      | none => (match e2 with
        | .Constant .none _ _ => !p.2.2
        | _ => false)))
    | none => false))
  | _ => false
def chkS (T : Tb) (N : List Str) : Nat → Scope → MS → Stmt → Bool
  | 0, _, _, _ => false
  | n + 1, sc, m, st => match m with
    | .junk => true
    | .expr e => (match st with
      | .Expr x _ => noComp x && chkE T N ef sc e x
      | _ => false)
    | .set i e => (match st with
      | .Assign [.Name x px] v _ => isNm N sc (fun _ => true) i (.Name x px) && chkE T N ef sc e v && (match v with
        | .ListComp _ _ _ _ => !decide (sc.names.lookup x = some .local) || isComp e
        | .DictComp _ _ _ _ _ => !decide (sc.names.lookup x = some .local) || isDComp e
        | v => noComp v)
      | _ => false)
    | .par is es => (match st with
      | .Assign [.Tuple [.Name x px, .Name y py] _ _] (.Tuple [a, b] _ _) _ => (match is with
        | [i, j] => nmLoc N sc i x && (nmLoc N sc j y && ((py.line == px.line) && (([x, y].eraseDups.length == 2) && (decide (i ≠ j) && ((!(foldedForSure 8 a && foldedForSure 8 b)) && ((!(constantsAlone 8 a && constantsAlone 8 b)) && all2 (chkE T N ef sc) es [a, b]))))))
        | _ => false)
      | .Assign [.Tuple [.Name x px, .Name y py, .Name z pz] _ _] (.Tuple [a, b, c] _ _) _ => (match is with
        | [i, j, l] => nmLoc N sc i x && (nmLoc N sc j y && (nmLoc N sc l z && ((py.line == px.line) && ((pz.line == px.line) && (([x, y, z].eraseDups.length == 3) && (decide (i ≠ j) && (decide (i ≠ l) && (decide (j ≠ l) && ((!(foldedForSure 8 a && (foldedForSure 8 b && foldedForSure 8 c))) && ((!(constantsAlone 8 a && (constantsAlone 8 b && constantsAlone 8 c))) && all2 (chkE T N ef sc) es [a, b, c]))))))))))
        | _ => false)
      | _ => false)
    | .unp is e => (match st with
      | .Assign [.Tuple ts _ _] v _ => all2 (isNm N sc fun _ => true) is ts && (chkE T N ef sc e v && (match v with
        | .Tuple vs _ _ => vs.all (foldedForSure 8) || ts.any (offName sc)
        | _ => true))
      | _ => false)
    | .stI o i e => (match st with
      | .Assign [.Subscript eo ei _] v _ => plainE eo && (chkE T N ef sc e v && (chkE T N ef sc o eo && chkE T N ef sc i ei))
      | _ => false)
    | .stP mo mi mo' mi' es => (match st with
      | .Assign [.Tuple [.Subscript o i _, .Subscript o' i' _] _ _] (.Tuple vs _ _) _ => chkE T N ef sc mo o && (chkE T N ef sc mi i && (chkE T N ef sc mo' o' && (chkE T N ef sc mi' i' && (decide (es.length ≤ 1000) && all2 (chkE T N ef sc) es vs))))
      | _ => false)
    | .aug op i e => (match st with
      | .AugAssign (.Name x px) o v _ => isNm N sc (fun _ => true) i (.Name x px) && (chkE T N ef sc e v && (match op, o with
        | .add, .Add => true
        | .sub, .Sub => true
        | _, _ => false))
      | _ => false)
    | .app o e => (match st with
      | .Expr (.Call (.Attribute eo x ap) [ee] [] cp) _ => decide (x = ("append" : Str)) && (noCall0 eo && ((ap.endLine == cp.line) && (chkE T N ef sc o eo && chkE T N ef sc e ee)))
      | _ => false)
    | .ret e => (match st with
      | .Return (some v) _ => chkE T N ef sc e v
      | _ => false)
    | .retN => (match st with
      | .Return none _ => true
      | _ => false)
    | .if_ c a b => (match st with
      | .If ec sa sb _ => chkT T N ef sc c ec && (all2 (chkS T N n sc) a sa && all2 (chkS T N n sc) b sb)
      | _ => false)
    | .for_ tg it body => (match st with
      | .For etg eit sb [] _ => chkTgt N sc (fun _ => true) tg etg && (plainE eit && (chkIt T sc (chkE T N ef sc) it etg eit && all2 (chkS T N n sc) body sb))
      | _ => false)
    | .forT tg it body => (match st with
      | .For etg eit sb [] _ => chkTgt N sc (fun _ => true) tg etg && (plainE eit && (chkIt T sc (chkE T N ef sc) it etg eit && all2 (chkS T N n sc) body sb))
      | _ => false)
    | .while_ _ c body => (match st with
      | .While ec sb [] _ => chkT T N ef sc c ec && all2 (chkS T N n sc) body sb
      | _ => false)
    | .raise_ c es => (match st with
      | .Raise (some (.Call (.Name x _) [e] [] _)) none _ => isGl sc x && (nmOk x && (match T.cls.lookup x with
        | some (c', _) => decide (c' = c) && all2 (chkE T N ef sc) es [e]
        | none => false))
      | _ => false)
    | .tryR e hs => (match st with
      | .Try [.Return (some eb) _] (h₀ :: hds) [] [] _ => chkE { T with lc := fun _ _ _ _ _ => false } N ef sc e eb && all2 (chkH T N sc) hs (h₀ :: hds)
      | _ => false)
    | .stD i k e => (match st with
      | .Assign [.Subscript (.Name x _) ek _] v _ => nameOk N sc i x && (chkE T N ef sc e v && chkE T N ef sc k ek)
      | _ => false)
    | .ext i e => (match st with
      | .Expr (.Call (.Attribute (.Name x _) m ap) [ee] [] cp) _ => decide (m = ("extend" : Str)) && (nameOk N sc i x && ((ap.endLine == cp.line) && chkE T N ef sc e ee))
      | _ => false)
    | .spl j i => (match st with
      | .Expr (.Call (.Name x _) [e] [] _) _ => isGlF T sc x j && (T.spl.contains j && isNm0 N sc i e)
      | _ => false)
    | .brk => (match st with
      | .Break _ => true
      | _ => false)
    | .cont => (match st with
      | .Continue _ => true
      | _ => false)
    | .pass => (match st with
      | .Pass _ => true
      | .Expr (.Constant (.str _) _ _) _ => true
      | _ => false)
/-- what is known where a def's body runs -/
structure CtxS (G : GI) (T : Tb) (cf : CF) (k : Nat) (ce : List (Option Nat)) (X : Cx) (Wx : WX) : Prop where
  e : CtxE G T cf k ce X Wx
  fn : ∀ x, X.fn x = true
  po : PassesOwn (model X.prog X.w) X.A X.env X.xe
  bk : X.env.blockKind = .function
  stk : X.stack = X.env :: X.outer
  frm : X.env.frame = some X.env.locals
  two : 2 ≤ k
  cls : ∀ x c fl, T.cls.lookup x = some (c, fl) → ClsOk X.prog X.w X.K X.mg X.base G.toGS x c fl
  exm : ∀ c, G.cok c → ∀ y c' fl, ClsOk X.prog X.w X.K X.mg X.base G.toGS y c' fl → PySem.W.exmOne X.K (.ref (G.ca c)) (.ref (G.ca c')) = some (decide (c = c'))
section
variable {G : GI} {T : Tb} {cf : CF} {k : Nat} {Wx : WX} {X : Cx} {f : ME → SL → HH → R O} {F F1 : Fz} {r r1 : List Addr} {H H1 : Hp} {R L L1 : List Addr} {σ σ1 : L2.St} {s s1 : SL} {h h1 : HH}
theorem comp_set {n : Nat} (ih : SndE cf k n) (ihT : SndT cf k n) {ce : List (Option Nat)} (C : CtxE G T cf k ce X Wx) {m : ME} {eelt : Expr} {gens : List Comprehension} {scope : Scope} {pos spos py : Pos} {x : Str} {i : Nat}
    (h : chkE T X.N (n + 1) X.env.scope m (.ListComp eelt gens scope pos) = true) (hc : isComp m = true) (hi : X.N[i]? = some x) (hl : X.env.scope.names.lookup x = some .local) (hsw : swapsWith (.ListComp eelt gens scope pos) (some (.Name x py)) spos.line X.env = pure true) :
    PS X (.Assign [.Name x py] (.ListComp eelt gens scope pos) spos) (TMS G Wx fun s h => (evE cf ce (n + 1) m s h).bind fun o s h => .ok .next (s.set i (some o)) h) := by
  unfold chkE at h
  rw [Bool.and_eq_true] at h
  obtain ⟨hpl, h⟩ := h
  cases m with
  | comp own tg it ifs elt =>
    dsimp only at h
    split at h
    · rename_i heq
      cases heq
      simp only [Bool.and_eq_true, decide_eq_true_eq] at h
      obtain ⟨hb, hnd, htg, hct, hpi, hit, hifs, helt⟩ := h
      have hz : ∀ (s : Shared) (H : Hp) (cenv : Env) (fp : List Addr) (x : Str), (scope.names.lookup x == some NameKind.cell) = true → (X.blk s H scope cenv fp).fn x = true := fun _ _ _ _ _ q => q
      have cb : ∀ (s : Shared) (H : Hp) (A : Addr) (cl : List (Str × Addr)) (fp : List Addr), CtxE G T.no cf k [] (X.blk s H scope (compEnvC scope cl A X.env) fp) W0 := fun s H A cl fp => C.blk s H scope cl A fp
      have hsk : tg ≠ .skip := by intro e; subst e; cases htg
      refine (ps_setLc (g := gTg X.K tg) (tt := TMt G W0 (testE (evT cf [] n) ifs)) (te := TM G W0 (evE cf [] n elt)) C.calm C.nd hi hl hsw (snd_I ih C hit) (blkOk_by hb) ?_ ?_ ?_ (plain_fold hpi)).weak fun D σ H q => ?_
      · exact fun s H A cl fp => (chkTgt_pg (X := X.blk s H scope (compEnvC scope cl A X.env) fp) C.calm C.nd (hz s H _ fp) hct).1
      · intro s H A cl fp
        refine pts_m ?_
        unfold chkIfs at hifs
        split at hifs
        · exact .inl ⟨rfl, rfl⟩
        · exact .inr ⟨_, _, rfl, rfl, ihT _ W0 [] _ _ (cb s H A cl fp) hifs⟩
        · cases hifs
      · exact fun s H A cl fp => ih _ W0 [] _ _ (cb s H A cl fp) helt
      · exact w_mcomp (ow_snd _ _) hnd hsk (tgOk_ok htg) σ H _ (w_set (f := evE cf ce (n + 1)) D σ H q)
    · cases h
  | _ => cases hc
theorem comp_setD {n : Nat} (ih : SndE cf k n) (ihT : SndT cf k n) {ce : List (Option Nat)} (C : CtxE G T cf k ce X Wx) {m : ME} {ekx evx : Expr} {gens : List Comprehension} {scope : Scope} {pos spos py : Pos} {x : Str} {i : Nat}
    (h : chkE T X.N (n + 1) X.env.scope m (.DictComp ekx evx gens scope pos) = true) (hc : isDComp m = true) (hi : X.N[i]? = some x) (hl : X.env.scope.names.lookup x = some .local) (hsw : swapsWith (.DictComp ekx evx gens scope pos) (some (.Name x py)) spos.line X.env = pure true) :
    PS X (.Assign [.Name x py] (.DictComp ekx evx gens scope pos) spos) (TMS G Wx fun s h => (evE cf ce (n + 1) m s h).bind fun o s h => .ok .next (s.set i (some o)) h) := by
  unfold chkE at h
  rw [Bool.and_eq_true] at h
  obtain ⟨hpl, h⟩ := h
  cases m with
  | dcomp own t tg it ifs kx vx =>
    dsimp only at h
    split at h
    · rename_i heq
      cases heq
      simp only [Bool.and_eq_true, decide_eq_true_eq] at h
      obtain ⟨hb, hnd, htg, hct, hpi, hit, hifs, hkx, hvx⟩ := h
      have hz : ∀ (s : Shared) (H : Hp) (cenv : Env) (fp : List Addr) (x : Str), (scope.names.lookup x == some NameKind.cell) = true → (X.blk s H scope cenv fp).fn x = true := fun _ _ _ _ _ q => q
      have cb : ∀ (s : Shared) (H : Hp) (A : Addr) (cl : List (Str × Addr)) (fp : List Addr), CtxE G T.no cf k [] (X.blk s H scope (compEnvC scope cl A X.env) fp) W0 := fun s H A cl fp => C.blk s H scope cl A fp
      have hsk : tg ≠ .skip := by intro e; subst e; cases htg
      refine (ps_setDc (g := gTg X.K tg) (tt := TMt G W0 (testE (evT cf [] n) ifs)) (tk := TM G W0 (evE cf [] n kx)) (tv := TM G W0 (evE cf [] n vx)) C.calm C.nd hi hl hsw (snd_I ih C hit) (blkOk_by hb) ?_ ?_ ?_ ?_ (plain_fold hpi)).weak fun D σ H q => ?_
      · exact fun s H A cl fp => (chkTgt_pg (X := X.blk s H scope (compEnvC scope cl A X.env) fp) C.calm C.nd (hz s H _ fp) hct).1
      · intro s H A cl fp
        refine pts_m ?_
        unfold chkIfs at hifs
        split at hifs
        · exact .inl ⟨rfl, rfl⟩
        · exact .inr ⟨_, _, rfl, rfl, ihT _ W0 [] _ _ (cb s H A cl fp) hifs⟩
        · cases hifs
      · exact fun s H A cl fp => ih _ W0 [] _ _ (cb s H A cl fp) hkx
      · exact fun s H A cl fp => ih _ W0 [] _ _ (cb s H A cl fp) hvx
      · exact w_mdcomp (ow_snd _ _) hnd hsk (tgOk_ok htg) σ H _ (w_set (f := evE cf ce (n + 1)) D σ H q)
    · cases h
  | _ => cases hc
/-! ### a place is set -/
theorem w_sub1 {o i : ME} {v : O} {x : V} {M R1 : List Addr} {K : SL → HH → Mini.R Fl} {D : Ends} {Q : Hp → Prop} {F0 : Fz} {r0 : List Addr} {H0 : Hp} (b0 : Bh G F0 r0 H0 R σ F r H L s) (ro : RO G F r H v x M) (wi : WI G F r H h (M ++ (L ++ (R1 ++ R))))
    (out : Out ((evP f o s h).bind fun p s h => (ev1 f i s h).bind fun k s h => (stP1 p k v s h).bind fun _ s h => K s h) (PF G F0 r0 H0 R D) (EKS G Wx F0 r0 H0 R))
    (k : ∀ F' r' H' L' s' h', Bh G F0 r0 H0 R σ F' r' H' L' s' → Le F r H F' r' H' → (∀ b ∈ R1, H' b = H b) → WI G F' r' H' h' (L' ++ (R1 ++ R)) → Out (K s' h') (PF G F0 r0 H0 R D) (EKS G Wx F0 r0 H0 R) → Q H') :
    gSub (TMp G Wx (evP f o)) (TMd G Wx (evD f i)) rSetL x σ H fun _ H' => Q H' := by
  have wi' : WI G F r H h (L ++ ((M ++ R1) ++ R)) := wi.perm (by
    have z : (M ++ (L ++ (R1 ++ R))).Perm (L ++ (M ++ (R1 ++ R))) := List.perm_append_comm_assoc ..
    exact z.trans (by rw [List.append_assoc]))
  refine ⟨F, r, s, h, L, (M ++ R1) ++ R, ⟨b0.rs, wi'⟩, (Out.cases out).mono (fun p s2 h2 o2 => ?_) (fun _ _ _ _ z => EK.tr b0 z.ek)⟩
  intro F2 r2 H2 L2 pv b2 rp ok wi2
  refine ⟨F2, r2, s2, h2, L2, (M ++ R1) ++ R, b2.at wi2, (Out.cases (Out.cases o2)).mono (fun d s3 h3 o3 => ?_) (fun _ _ _ _ z => EK.tr (b0.trans b2) z.ek)⟩
  intro F3 r3 H3 L3 y b3 rd wi3
  obtain ⟨w, e3, o4⟩ := Out.ofO o3
  have b23 := b2.trans0 b3
  have b123 : Bh G F0 r0 H0 R σ F3 r3 H3 L3 s3 := b0.trans b23
  have vk := RD.view (b3.at wi3) rd e3
  have wi3' : WI G F3 r3 H3 h3 (M ++ (L3 ++ (R1 ++ R))) := wi3.perm (by
    have z : (L3 ++ (M ++ (R1 ++ R))).Perm (M ++ (L3 ++ (R1 ++ R))) := List.perm_append_comm_assoc ..
    exact (by rw [List.append_assoc] : (L3 ++ ((M ++ R1) ++ R)).Perm (L3 ++ (M ++ (R1 ++ R)))).trans z)
  have a3 : At G F3 r3 H3 (R1 ++ R) σ s3 h3 L3 := ⟨b3.rs, wi3'.right⟩
  refine w_stP1 a3 (rp.mono b3.le) (ro.mono b23.le fun b hb => b23.kp b (by simp [hb])) wi3' vk (Out.cases o4) (Q := Q) fun s' h' q F' H' L' b w => ?_
  exact k F' r3 H' L' s' h' (b123.transS b.less) (b23.le.trans b.le) (fun x hx => (b.kp x (List.mem_append_left _ hx)).trans (b23.kp x (by simp [hx]))) w q
theorem w_stI {o i e : ME} : ∀ D σ H, TMS G Wx (fun s h => (f e s h).bind fun v s h => (evP f o s h).bind fun p s h => (ev1 f i s h).bind fun k s h => (stP1 p k v s h).bind fun _ s h => .ok .next s h) D σ H →
    tAsg (TM G Wx (f e)) (gSub (TMp G Wx (evP f o)) (TMd G Wx (evD f i)) rSetL) D σ H := by
  rintro D σ H ⟨F, r, s, h, L, R, a0, out⟩
  refine ⟨F, r, s, h, L, R, a0, (Out.cases out).mono (fun v s1 h1 o1 => ?_) (fun _ _ _ _ z => z.ek)⟩
  intro F1 r1 H1 L1 x M b1 ro wi1
  exact w_sub1 (R1 := []) (K := fun s h => .ok .next s h) (Q := D.nx σ) b1 ro wi1 o1 fun F' r' H' L' s' h' b _ _ w q => q F' r' H' L' σ b w
theorem pe_mtupO {es : List ME} {vs : List Expr} {x1 : Nat} {pos : Pos} (hl : es.length ≤ 1000) (ha : PA X vs (TMs G Wx (evL f es))) : PE X (.Tuple vs x1 pos) (TM G Wx fun s h => (evL f es s h).bind fun os s h => .ok (.tup os) s h) := by
  refine (pe_tup ha).weak ?_
  rintro σ H Q ⟨F, r, s, h, L, R, a0, out⟩
  refine ⟨F, r, s, h, L, R, a0, (Out.cases out).monoE (fun os s1 h1 e0 o1 => ?_) (fun _ _ _ _ z => z)⟩
  intro F1 r1 H1 L1 vs M b1 rr w1
  refine ⟨?_, fun p hp => ?_⟩
  · rw [← rr.len, evL_len e0, ← line_eq]
    exact Nat.le_trans hl (by decide)
  have l := Le.new w1 hp (.tup vs)
  have kp : ∀ b ∈ M ++ (L1 ++ R), upd H1 p (.tup vs) b = H1 b := fun b hb => upd_ne (w1.ne hb hp)
  have b2 : Bh G F r H R σ F1 r1 (upd H1 p (.tup vs)) L1 s1 := ⟨b1.le.trans l, b1.rs.mono l fun b hb => kp b (List.mem_append_right _ (List.mem_append_left _ hb)), fun b hb => (kp b (List.mem_append_right _ (List.mem_append_right _ hb))).trans (b1.kp b hb)⟩
  exact o1 F1 r1 _ L1 (.ref p) M b2 (.tup upd_same (rr.mono l fun b hb => kp b (List.mem_append_left _ hb))) (w1.newT hp _)
theorem Out.bindI {α β : Type} {m : Mini.R α} {k : α → SL → HH → Mini.R β} {P : β → SL → HH → Prop} {E : Nat → List W → SL → HH → Prop} (h : Out m (fun a s h => Out (k a s h) P E) E) : Out (m.bind k) P E := by
  cases m <;> exact h
theorem w_stP {K : PySem.W.Frag} {o i o' i' : ME} {es : List ME} : ∀ D σ H, TMS G Wx (fun s h => (evL f es s h).bind fun vs s h => match vs with
      | [v, v'] => (evP f o s h).bind fun p s h => (ev1 f i s h).bind fun k s h => (stP1 p k v s h).bind fun _ s h =>
        (evP f o' s h).bind fun p s h => (ev1 f i' s h).bind fun k s h => (stP1 p k v' s h).bind fun _ s h => .ok .next s h
      | _ => .fail) D σ H →
    tAsg (TM G Wx fun s h => (evL f es s h).bind fun os s h => .ok (.tup os) s h) (gTup K 2 (gCons (gSub (TMp G Wx (evP f o)) (TMd G Wx (evD f i)) rSetL) (gCons (gSub (TMp G Wx (evP f o')) (TMd G Wx (evD f i')) rSetL) gNil))) D σ H := by
  rintro D σ H ⟨F, r, s, h, L, R, a0, out⟩
  refine ⟨F, r, s, h, L, R, a0, Out.bindI ((Out.cases out).mono (fun vs s1 h1 o1 => ?_) (fun _ _ _ _ z => z.ek))⟩
  intro F1 r1 H1 L1 v M b1 ro wi1
  split at o1
  · rename_i v1 v2
    cases ro with
    | tup ha q =>
      cases q with
      | @cons _ x1 _ _ M1 _ q1 q2 =>
        cases q2 with
        | @cons _ x2 _ _ M2 _ q2 q3 =>
          cases q3
          refine ⟨_, _, rfl, .of ha, rfl, x1, [x2], rfl, ?_⟩
          have w1 : WI G F1 r1 H1 h1 (M1 ++ (L1 ++ (M2 ++ R))) := wi1.perm (by
            rw [List.append_nil, List.append_assoc]
            exact List.Perm.append_left M1 (List.perm_append_comm_assoc ..))
          refine w_sub1 (R1 := M2) (Q := fun H' => gCons (gSub (TMp G Wx (evP f o')) (TMd G Wx (evD f i')) rSetL) gNil [x2] σ H' D.nx) b1 q1 w1 o1 fun F' r' H' L' s' h' b l kR w q => ?_
          refine ⟨x2, [], rfl, ?_⟩
          have w2 : WI G F' r' H' h' (M2 ++ (L' ++ ([] ++ R))) := w.perm (List.perm_append_comm_assoc ..)
          exact w_sub1 (R1 := []) (K := fun s h => .ok .next s h) (Q := fun H' => gNil [] σ H' D.nx) b (q2.mono l kR) w2 q fun F' r' H' L' s' h' b _ _ w q => ⟨rfl, q F' r' H' L' σ b w⟩
  · exact o1.elim
end
end Mini
set_option Elab.async false
set_option linter.all false
set_option maxRecDepth 100000
set_option maxHeartbeats 1000000
/-! Mini: statements are sound. -/
namespace Mini
open PySem L2
section
variable {G : GI} {T : Tb} {cf : CF} {k : Nat}
def SndS (G : GI) (T : Tb) (cf : CF) (k n : Nat) : Prop := ∀ (X : Cx) (Wx : WX) (ce : List (Option Nat)) (m : MS) (st : Stmt), CtxS G T cf k ce X Wx → chkS T X.N n X.env.scope m st = true → PS X st (TMS G Wx (exS cf ce n m))
variable {n : Nat} {X : Cx} {Wx : WX}
theorem nmLoc_ok {i : Nat} {x : Str} {N : List Str} {sc : Scope} (h : nmLoc N sc i x = true) : N[i]? = some x ∧ sc.names.lookup x = some .local := by
  unfold nmLoc at h
  simp only [Bool.and_eq_true, decide_eq_true_eq] at h
  exact ⟨slotN_ok h.1, h.2⟩
theorem isNm_parts {N : List Str} {sc : Scope} {fz : Str → Bool} {i : Nat} {x : Str} {px : Pos} (h : isNm N sc fz i (.Name x px) = true) : N[i]? = some x ∧ Loc sc x := by
  unfold isNm at h
  simp only [Bool.and_eq_true] at h
  exact ⟨slotN_ok h.1.1, isLoc_ok h.1.2⟩
theorem plain_sub {o i : Expr} {p : Pos} {env : Env} (h : plainE i = true) : ∀ v, assign (.Subscript o i p) env v = (do
    let ov ← holding [v] (eval o env)
    let iv ← holding [v, ov] (eval i env)
    standAt p
    holding [v, ov, iv] (setItem ov iv v)
    release [v, ov, iv] []) := by
  cases i <;> first | (intro v; rfl) | cases h
theorem chk_H (C : CtxS G T cf k ce X Wx) {p : Nat × W × Bool} {hd : ExceptHandler} {hds : List ExceptHandler} {hs : List (Nat × W × Bool)} {l : List Hd} (h : chkH T X.N X.env.scope p hd = true) (r : HR X G hds hs l) : ∃ e, HR X G (hd :: hds) (p :: hs) (e :: l) := by
  obtain ⟨c0, w0, b0⟩ := p
  unfold chkH at h
  split at h
  · rename_i x np nm wd j p1 e2 kk p4 p5 p6
    simp only [Bool.and_eq_true] at h
    obtain ⟨hg, hn, h⟩ := h
    split at h
    · rename_i c fl hc
      simp only [Bool.and_eq_true, decide_eq_true_eq] at h
      obtain ⟨rfl, hw, h⟩ := h
      have ok := C.cls _ _ _ hc
      obtain ⟨d1, d2, d3⟩ := nmOk_ok hn
      have nms : Names X x (.ref (G.ca c)) := ⟨isGl_ok hg, d1, .inl ok.at_⟩
      split at hw
      · rename_i w
        have ew := of_decide_eq_true hw
        split at h
        · rename_i n
          simp only [Bool.and_eq_true, decide_eq_true_eq] at h
          obtain ⟨hN, hl, h⟩ := h
          obtain ⟨i, hi⟩ := List.getElem?_of_mem (List.contains_iff_mem.mp hN)
          split at h
          · simp only [Bool.and_eq_true, decide_eq_true_eq, Bool.not_eq_true'] at h
            obtain ⟨hb, rfl, rfl, h3, h4⟩ := h
            have hb : b0 = true := hb
            subst hb
            exact ⟨_, .fld ok nms hi hl h3 h4 ew r⟩
          · have hb : b0 = false := by simpa using h
            subst hb
            exact ⟨_, .nonN ok nms hi hl ew r⟩
          · cases h
        · split at h
          · have hb : b0 = false := by simpa using h
            subst hb
            exact ⟨_, .non0 ok nms ew r⟩
          · cases h
      · cases hw
    · cases h
  · cases h
theorem chk_Hs (C : CtxS G T cf k ce X Wx) : ∀ {hs : List (Nat × W × Bool)} {hds : List ExceptHandler}, all2 (chkH T X.N X.env.scope) hs hds = true → ∃ l, HR X G hds hs l
  | [], [], _ => ⟨[], .nil⟩
  | p :: hs, hd :: hds, h => by
    simp only [all2, Bool.and_eq_true] at h
    obtain ⟨l, r⟩ := chk_Hs C h.2
    obtain ⟨e, r2⟩ := chk_H C h.1 r
    exact ⟨e :: l, r2⟩
  | [], _ :: _, h => by cases h
  | _ :: _, [], h => by cases h
theorem snd_S (ih : SndS G T cf k n) : SndS G T cf k (n + 1) := by
  intro X Wx ce m st C h
  have E : SndE cf k ef := (snd ef).1
  have Tt : SndT cf k ef := (snd ef).2
  have hfn : ∀ x, (fun _ : Str => true) x = true → X.fn x = true := fun x _ => C.fn x
  unfold chkS at h
  cases m with
  | junk => exact ps_never.weak fun D σ H ⟨F, r, s, h, L, R, a, out⟩ => out.elim
  | spl j i =>
    dsimp only at h
    split at h
    · simp only [Bool.and_eq_true] at h
      obtain ⟨hf, hs, hn⟩ := h
      obtain ⟨h1, h2, h3⟩ := glF_ok hf
      obtain ⟨q1, _⟩ := C.e.fns _ _ h2
      obtain ⟨ps, q2, q3, q4⟩ := C.e.clo.2 j (C.e.spl j hs)
      obtain ⟨pe, pl⟩ := isNm0_ok hn
      exact (ps_expr (pe_mspl q4 C.e.room h1 q1 q2 q3 C.e.tk (nmOk_ok h3).1 pe pl)).weak w_spl
    · cases h
  | expr e =>
    dsimp only at h
    split at h
    · simp only [Bool.and_eq_true] at h
      exact (ps_expr (E X Wx ce _ _ C.e h.2) (noComp_sw h.1)).weak w_drop
    · cases h
  | set i e =>
    dsimp only at h
    split at h
    · simp only [Bool.and_eq_true] at h
      obtain ⟨⟨h1, h2⟩, h3⟩ := h
      obtain ⟨hi, hx⟩ := isNm_parts h1
      rename_i x px v p
      have plain : swapsWith v (some (.Name x px)) p.line X.env = pure false → PS X (.Assign [.Name x px] v p) (TMS G Wx fun s h => (evE cf ce ef e s h).bind fun o s h => .ok .next (s.set i (some o)) h) := fun q =>
        (ps_set C.e.nd hi hx (E X Wx ce _ _ C.e h2) q (.inl (C.fn _))).weak w_set
      split at h3
      · rename_i elt gens scope pos
        by_cases hloc : X.env.scope.names.lookup x = some .local
        case neg =>
          refine plain ?_
          show (pure (X.env.blockKind == .function && X.env.kindOf x == some .local && px.line == pos.line && !(scope.names.any fun (n, k) => n == x && (k == .local || k == .cell))) : Sem Bool) = pure false
          have q : (X.env.kindOf x == some .local) = false := by
            rw [beq_eq_false_iff_ne]
            exact hloc
          rw [q]
          simp
        obtain ⟨b, eb⟩ : ∃ b, swapsWith (.ListComp elt gens scope pos) (some (.Name x px)) p.line X.env = pure b := ⟨_, rfl⟩
        cases b with
        | false => exact plain eb
        | true =>
          obtain ⟨n0, en⟩ : ∃ n0, ef = n0 + 1 := ⟨59, rfl⟩
          show PS X _ (TMS G Wx fun s h => (evE cf ce ef e s h).bind fun o s h => .ok .next (s.set i (some o)) h)
          rw [en] at h2 ⊢
          rw [Bool.or_eq_true, Bool.not_eq_true', decide_eq_false_iff_not] at h3
          exact comp_set (snd n0).1 (snd n0).2 C.e h2 (h3.resolve_left fun z => z hloc) hi hloc eb
      · rename_i ekx evx gens scope pos
        by_cases hloc : X.env.scope.names.lookup x = some .local
        case neg =>
          refine plain ?_
          show (pure (X.env.blockKind == .function && X.env.kindOf x == some .local && px.line == pos.line && !(scope.names.any fun (n, k) => n == x && (k == .local || k == .cell))) : Sem Bool) = pure false
          have q : (X.env.kindOf x == some .local) = false := by
            rw [beq_eq_false_iff_ne]
            exact hloc
          rw [q]
          simp
        rw [Bool.or_eq_true, Bool.not_eq_true', decide_eq_false_iff_not] at h3
        obtain ⟨b, eb⟩ : ∃ b, swapsWith (.DictComp ekx evx gens scope pos) (some (.Name x px)) p.line X.env = pure b := ⟨_, rfl⟩
        cases b with
        | false => exact plain eb
        | true =>
          obtain ⟨n0, en⟩ : ∃ n0, ef = n0 + 1 := ⟨59, rfl⟩
          show PS X _ (TMS G Wx fun s h => (evE cf ce ef e s h).bind fun o s h => .ok .next (s.set i (some o)) h)
          rw [en] at h2 ⊢
          exact comp_setD (snd n0).1 (snd n0).2 C.e h2 (h3.resolve_left fun z => z hloc) hi hloc eb
      · exact plain (noComp_sw h3)
    · cases h
  | par is es =>
    dsimp only at h
    split at h
    · split at h
      · simp only [Bool.and_eq_true, Bool.not_eq_true', decide_eq_true_eq] at h
        obtain ⟨h1, h2, hl, hd, hij, hf, hc, he⟩ := h
        obtain ⟨a1, b1⟩ := nmLoc_ok h1
        obtain ⟨a2, b2⟩ := nmLoc_ok h2
        have pl := chks_plain he
        exact (ps_par C.e.calm C.e.nd a1 a2 hij b1 b2 (E.L C.e he) (sw2 C.bk b1 b2 hl hd (pl _ (by simp)) (pl _ (by simp)) hf hc)).weak w_par2
      · cases h
    · split at h
      · simp only [Bool.and_eq_true, Bool.not_eq_true', decide_eq_true_eq] at h
        obtain ⟨h1, h2, h3, hl, hl2, hd, hij, hil, hjl, hf, hc, he⟩ := h
        obtain ⟨a1, b1⟩ := nmLoc_ok h1
        obtain ⟨a2, b2⟩ := nmLoc_ok h2
        obtain ⟨a3, b3⟩ := nmLoc_ok h3
        have pl := chks_plain he
        exact (ps_par3 C.e.calm C.e.nd a1 a2 a3 hij hil hjl b1 b2 b3 (E.L C.e he) (sw3 C.bk b1 b2 b3 hl hl2 hd (pl _ (by simp)) (pl _ (by simp)) (pl _ (by simp)) hf hc)).weak w_par3
      · cases h
    · cases h
  | unp is e =>
    dsimp only at h
    split at h
    · simp only [Bool.and_eq_true] at h
      obtain ⟨h1, h2, h3⟩ := h
      rename_i ts kt pt v p
      have hg := (chkTgt_pg (tg := .many is) C.e.calm C.e.nd hfn (e := .Tuple ts kt pt) h1).1
      refine (ps_asg (E X Wx ce _ _ C.e h2) hg sw_tupT ?_ rfl).weak w_unp
      split at h3
      · rcases Bool.or_eq_true_iff.mp h3 with h3 | h3
        · exact swN h3
        · exact swC h3
      · refine swN' ?_
        rename_i hne
        cases v <;> first | rfl | exact absurd rfl (hne _ _ _)
    · cases h
  | stI o i e =>
    dsimp only at h
    split at h
    · simp only [Bool.and_eq_true] at h
      exact (ps_asg (E X Wx ce _ _ C.e h.2.1) (pg_sub (E.p C.e h.2.2.1) (E.d C.e h.2.2.2) set_list (plain_sub (chk_plain h.2.2.2))) sw_sub rfl rfl).weak w_stI
    · cases h
  | stP o i o' i' es =>
    dsimp only at h
    split at h
    · simp only [Bool.and_eq_true, decide_eq_true_eq] at h
      obtain ⟨h1, h2, h3, h4, h5, h6⟩ := h
      exact (ps_asg (pe_mtupO h5 (E.L C.e h6)) (pg_tup C.e.calm (pgs_cons (pg_sub (E.p C.e h1) (E.d C.e h2) set_list (plain_sub (chk_plain h2))) (pgs_cons (pg_sub (E.p C.e h3) (E.d C.e h4) set_list (plain_sub (chk_plain h4))) pgs_nil))) sw_tupT swP2 rfl).weak w_stP
    · cases h
  | aug op i e =>
    dsimp only at h
    split at h
    · simp only [Bool.and_eq_true] at h
      obtain ⟨h1, h2, h3⟩ := h
      obtain ⟨hi, hx⟩ := isNm_parts h1
      split at h3
      · exact (ps_aug C.e.nd hi hx (E.d C.e h2) ip_add (.inl (C.fn _))).weak (w_aug (.inl ⟨rfl, rfl⟩))
      · exact (ps_aug C.e.nd hi hx (E.d C.e h2) ip_sub (.inl (C.fn _))).weak (w_aug (.inr ⟨rfl, rfl⟩))
      · cases h3
    · cases h
  | app o e =>
    dsimp only at h
    split at h
    · simp only [Bool.and_eq_true, decide_eq_true_eq] at h
      obtain ⟨rfl, h0, hl, h1, h2⟩ := h
      exact ps_mapp (chk_plain h1) h0 (chk_plain h2) hl (E.p C.e h1) (E X Wx ce _ _ C.e h2)
    · cases h
  | ret e =>
    dsimp only at h
    split at h
    · exact (ps_ret (E X Wx ce _ _ C.e h)).weak w_ret
    · cases h
  | retN =>
    dsimp only at h
    split at h
    · exact ps_retN.weak w_retN
    · cases h
  | if_ c a b =>
    dsimp only at h
    split at h
    · simp only [Bool.and_eq_true] at h
      exact (ps_if (Tt X Wx ce _ _ C.e h.1) (pss_m (all2_imp h.2.1 fun m st q => ih X Wx ce m st C q)) (pss_m (all2_imp h.2.2 fun m st q => ih X Wx ce m st C q))).weak w_if
    · cases h
  | for_ tg it body =>
    dsimp only at h
    split at h
    · simp only [Bool.and_eq_true] at h
      obtain ⟨h1, h2, h3, h4⟩ := h
      obtain ⟨hg, hk⟩ := chkTgt_pg C.e.calm C.e.nd hfn h1
      exact (ps_for C.po C.e.calm (snd_I E C.e h3) hg (pss_m (all2_imp h4 fun m st q => ih X Wx ce m st C q)) (plain_fold h2)).weak (w_for hk)
    · cases h
  | forT tg it body =>
    dsimp only at h
    split at h
    · simp only [Bool.and_eq_true] at h
      obtain ⟨h1, h2, h3, h4⟩ := h
      obtain ⟨hg, hk⟩ := chkTgt_pg C.e.calm C.e.nd hfn h1
      exact (ps_for C.po C.e.calm (snd_I E C.e h3) hg ((pss_m (all2_imp h4 fun m st q => ih X Wx ce m st C q)).weak w_back) (plain_fold h2)).weak (w_for hk)
    · cases h
  | while_ m c body =>
    dsimp only at h
    split at h
    · simp only [Bool.and_eq_true] at h
      exact (ps_while C.po (Tt X Wx ce _ _ C.e h.1) (pss_m (all2_imp h.2 fun m st q => ih X Wx ce m st C q))).weak w_while
    · cases h
  | brk =>
    dsimp only at h
    split at h
    · exact ps_break.weak fun D σ H ⟨F, r, s, h, L, R, a, out⟩ => out F r H L σ a.here a.wi
    · cases h
  | cont =>
    dsimp only at h
    split at h
    · exact ps_continue.weak fun D σ H ⟨F, r, s, h, L, R, a, out⟩ => out F r H L σ a.here a.wi
    · cases h
  | pass =>
    dsimp only at h
    split at h
    · exact ps_pass.weak fun D σ H ⟨F, r, s, h, L, R, a, out⟩ => out F r H L σ a.here a.wi
    · exact ps_doc.weak fun D σ H ⟨F, r, s, h, L, R, a, out⟩ => out F r H L σ a.here a.wi
    · cases h
  | raise_ c es =>
    dsimp only at h
    split at h
    · simp only [Bool.and_eq_true] at h
      obtain ⟨hg, hn, h⟩ := h
      split at h
      · rename_i c' fl hc
        simp only [Bool.and_eq_true, decide_eq_true_eq] at h
        obtain ⟨rfl, he⟩ := h
        match es, he with
        | [m], he =>
          have pa := E.L C.e he
          have pl := chks_plain he _ List.mem_cons_self
          exact ps_mraise C.e.calm (C.e.room.mono C.two) C.e.tk (C.cls _ _ _ hc) (isGl_ok hg) (nmOk_ok hn).1 pl pa
        | [], he => cases he
        | _ :: _ :: _, he => simp [all2] at he
      · cases h
    · cases h
  | tryR e hs =>
    dsimp only at h
    split at h
    · rw [Bool.and_eq_true] at h
      obtain ⟨l, r⟩ := chk_Hs C h.2
      refine ps_mtry C.stk C.frm C.e.nd C.e.tk (fun W' pn xe tk => ?_) C.exm r
      exact (snd (cf := cf) (k := k) ef).1 (G := G) (T := { T with lc := fun _ _ _ _ _ => false }) (X.tr pn xe) W' ce e _ ⟨C.e.hK, C.e.calm, C.e.nd, C.e.room, C.e.blt, C.e.fns, C.e.fnk, C.e.clo, .inl fun _ _ _ _ _ => rfl, C.e.pats, tk, C.e.ce, C.e.sl, C.e.spl, C.e.kds⟩ h.1
    · cases h
  | stD i ke e =>
    dsimp only at h
    split at h
    · simp only [Bool.and_eq_true] at h
      have hu := C.e.room.un
      exact ps_mstD (by omega) (name_pe h.1) (E X Wx ce _ _ C.e h.2.1) (E.d C.e h.2.2) (chk_plain h.2.2)
    · cases h
  | ext i e =>
    dsimp only at h
    split at h
    · simp only [Bool.and_eq_true, decide_eq_true_eq] at h
      obtain ⟨rfl, h1, h2, h3⟩ := h
      exact ps_mext (name_pe h1) (chk_plain h3) h2 (E X Wx ce _ _ C.e h3)
    · cases h
theorem sndS : ∀ n, SndS G T cf k n
  | 0 => fun X Wx ce m st C h => by cases h
  | n + 1 => snd_S (sndS n)
/-- a def's body -/
theorem snd_body {n : Nat} {ms : List MS} {sts : List Stmt} {ce : List (Option Nat)} (C : CtxS G T cf k ce X Wx) (h : all2 (chkS T X.N n X.env.scope) ms sts = true) : PSs X sts (TMS G Wx (exL (exS cf ce n) ms)) :=
  pss_m (all2_imp h fun m st q => sndS n X Wx ce m st C q)
end
end Mini
set_option Elab.async false
set_option linter.all false
set_option maxRecDepth 100000
set_option maxHeartbeats 1000000
/-! Mini: defs, and the program. -/
namespace Mini
open PySem L2
theorem ROs.slots {G : GS} {F : Fz} {r : List Addr} {H : Hp} : ∀ {os : List O} {vs : List V} {L : List Addr} (n : Nat), ROs G F r H os vs L → RS G F r H (os.map some ++ List.replicate n none) (vs.map some ++ List.replicate n none) L
  | [], _, _, n, .nil => by
    induction n with
    | zero => exact .nil
    | succ n ih => exact .nn ih
  | o :: os, _, _, n, .cons a b => .so a (ROs.slots n b)
/-- the slots that are cells -/
def clOk (sc : Scope) : List Bool → List Str → Bool
  | [], _ => true
  | false :: bs, _ :: xs => clOk sc bs xs
  | true :: bs, x :: xs => decide (sc.names.lookup x = some .cell) && clOk sc bs xs
  | _ :: _, [] => false
/-- the body of a def; where its cells outlive the frame its last row is return e -/
def BodyOk (T : Tb) (N : List Str) (sc : Scope) (d : DefR) (sts : List Stmt) : Prop := (d.fin = none ∧ all2 (chkS T N sf sc) d.body sts = true) ∨
  ∃ (m : ME) (pre : List Stmt) (e : Expr) (pos : Pos), d.fin = some m ∧ sts = pre ++ [.Return (some e) pos] ∧ all2 (chkS T N sf sc) d.body pre = true ∧ chkE T N ef sc m e = true
/-- a def of the text that a Mini def stands for -/
structure DefOk (G : GS) (T : Tb) (K : PySem.W.Frag) (mg : Str → Option Value) (base : Heap) (j : Nat) (d : DefR) : Prop where
  ex : ∃ (x qual : Str) (st : Stmt) (N : List Str) (T' : Tb), C8.Fun K x qual st (G.fa j) (G.fd j) ∧ C8.scC N (T.ps.getD j []) (C8.fnScope st) = true ∧ d.np = (T.ps.getD j []).length ∧ d.ns = N.length ∧ clOk (C8.fnScope st) d.cl N = true ∧
    (T' = T.no ∨ T' = T ∧ TabOk G mg base (qual ++ ".<locals>.") (G.fd j)) ∧ BodyOk T' N (C8.fnScope st) d (C8.fnBody st)
/-- the cells of a frame, in the order of the slots -/
def clA (cells : List (Str × Addr)) : List Bool → List Str → List Addr
  | false :: bs, _ :: xs => clA cells bs xs
  | true :: bs, x :: xs => (cells.lookup x).getD 0 :: clA cells bs xs
  | _, _ => []
theorem clA_len {cells : List (Str × Addr)} {sc : Scope} : ∀ {bs : List Bool} {xs : List Str}, clOk sc bs xs = true → (clA cells bs xs).length = bs.count true
  | [], _, _ => rfl
  | false :: bs, x :: xs, h => by simpa [clA, List.count_cons] using clA_len (bs := bs) (xs := xs) h
  | true :: bs, x :: xs, h => by
    simp only [clOk, Bool.and_eq_true] at h
    simp [clA, List.count_cons, clA_len (cells := cells) h.2]
  | false :: _, [], h => by cases h
  | true :: _, [], h => by cases h
/-- which slot, which place, which cell -/
theorem clA_get {cells : List (Str × Addr)} {sc : Scope} : ∀ {bs : List Bool} {xs : List Str} {n i j : Nat}, clOk sc bs xs = true → (mkCe bs n)[i]? = some (some j) →
    ∃ x, xs[i]? = some x ∧ sc.names.lookup x = some .cell ∧ n ≤ j ∧ (clA cells bs xs)[j - n]? = some ((cells.lookup x).getD 0)
  | [], _, _, i, _, _, e => by simp [mkCe] at e
  | false :: bs, x :: xs, n, 0, j, h, e => by simp [mkCe] at e
  | false :: bs, x :: xs, n, i + 1, j, h, e => by
    obtain ⟨y, h1, h2, h3, h4⟩ := clA_get (cells := cells) (bs := bs) (xs := xs) (n := n) (i := i) (j := j) h (by simpa [mkCe] using e)
    exact ⟨y, by simpa using h1, h2, h3, h4⟩
  | true :: bs, x :: xs, n, 0, j, h, e => by
    simp only [clOk, Bool.and_eq_true, decide_eq_true_eq] at h
    simp [mkCe] at e
    subst e
    exact ⟨x, rfl, h.1, Nat.le_refl _, by simp [clA]⟩
  | true :: bs, x :: xs, n, i + 1, j, h, e => by
    simp only [clOk, Bool.and_eq_true, decide_eq_true_eq] at h
    obtain ⟨y, h1, h2, h3, h4⟩ := clA_get (cells := cells) (bs := bs) (xs := xs) (n := n + 1) (i := i) (j := j) h.2 (by simpa [mkCe] using e)
    refine ⟨y, by simpa using h1, h2, by omega, ?_⟩
    have : j - n = (j - (n + 1)) + 1 := by omega
    rw [this]
    simpa [clA] using h4
  | false :: _, [], _, _, _, h, _ => by cases h
  | true :: _, [], _, _, _, h, _ => by cases h
theorem Jc.mem {G : GI} : ∀ {js : List Nat} {cs : List (Addr × Obj)}, Jc G js cs → (∀ c o, cs.lookup c = some o → ∃ j ∈ js, (j, c) ∈ G.own) ∧ ∀ j ∈ js, ∃ c o, (j, c) ∈ G.own ∧ cs.lookup c = some o
  | _, _, .nil => ⟨fun _ _ e => (by cases e), fun _ h => (by cases h)⟩
  | _, _, .cons (j := j) (c := c) (o := o) h1 h2 h3 jc => by
    obtain ⟨a, b⟩ := Jc.mem jc
    refine ⟨fun c' o' e => ?_, fun i hi => ?_⟩
    · by_cases ee : c' = c
      · subst ee; exact ⟨j, List.mem_cons_self, h1⟩
      · rw [lookup_cons_ne ee] at e
        obtain ⟨i, q1, q2⟩ := a c' o' e
        exact ⟨i, List.mem_cons_of_mem _ q1, q2⟩
    · rcases List.mem_cons.mp hi with e | e
      · subst e; exact ⟨c, o, h1, lookup_cons_eq⟩
      · obtain ⟨c', o', q1, q2⟩ := b i e
        have ne : c' ≠ c := fun ee => by rw [ee, h3] at q2; cases q2
        exact ⟨c', o', q1, by rw [lookup_cons_ne ne]; exact q2⟩
theorem pub_same {H : Hp} {a b : List (Addr × Obj)} (h : ∀ c, a.lookup c = b.lookup c) : pubH H a = pubH H b := by
  funext c
  unfold pubH
  rw [h c]
section
variable {G : GS} {F : Fz} {r : List Addr} {H : Hp} {h : HH} {R : List Addr}
theorem Le.more (F : Fz) (r : List Addr) (H : Hp) (as : List Addr) : Le F r H F (r ++ as) H := ⟨fun _ h => h, fun _ _ => rfl, ⟨as, rfl⟩, fun _ _ h => h, fun _ _ _ h _ => h, fun _ _ h => h⟩
/-- a frame's cells come in -/
theorem WI.enter (w : WI ⟨G, []⟩ F r H h R) (as : List Addr) : r.length = h.length ∧ WI ⟨G, links h.length as⟩ F (r ++ as) H (h ++ List.replicate as.length (.cell none)) R := by
  obtain ⟨⟨L, h1, h2, h3⟩, ff, tb, _⟩ := w
  have e := h1.lenq
  exact ⟨e, ⟨L, (h1.mono (Le.more F r H as) fun _ _ => rfl).more as, h2, h3⟩, ff, tb, fun p hp => links_at (by rw [e]; exact hp)⟩
end
section
variable {G : GS} {T : Tb} {Pg : List DefR} {LL : List LamR} {P : Program} {w : World} {K : PySem.W.Frag} {mg : Str → Option Value} {base : Heap} {k n j : Nat} {d : DefR}
/-- a lambda of the text that a Mini lambda stands for -/
structure LamOk (T : Tb) (li : LamI) (d : LamR) : Prop where
  ex : ∃ (ps N : List Str), LamK li.scope ps li.fv N ∧ d.np = ps.length ∧ d.nf = li.fv.length ∧ d.ns = N.length ∧ chkE T N ef li.scope d.body li.body = true ∧
    ∀ (us : List Value) (cells : List (Str × Addr)) (pm cdv ct : Value), us.length = ps.length → bindArgs (PySem.W.kla_fn "<lambda>" li.qual li.params li.body li.scope cells pm cdv ct) ⟨us, []⟩ = pure (ps.zip us)
def splN (j : Nat) : DefR := ⟨1, 2, [false, false], [.if_ (.isty [.list, .tuple] (.var 0)) [.for_ (.one 1) (.seq (.var 0)) [.expr (.call j [.var 1] [])]] [], .if_ (.isty [.list] (.var 0)) [.app (.var 0) (.cst late)] []], none⟩
/-- what is known of the program -/
structure PgOk (P : Program) (w : World) (G : GS) (T : Tb) (Pg : List DefR) (LL : List LamR) (K : PySem.W.Frag) (mg : Str → Option Value) (base : Heap) : Prop where
  cls : ∀ x c fl, T.cls.lookup x = some (c, fl) → ClsOk P w K mg base G x c fl
  exm : ∀ c, G.cok c → ∀ y c' fl, ClsOk P w K mg base G y c' fl → PySem.W.exmOne K (.ref (G.ca c)) (.ref (G.ca c')) = some (decide (c = c'))
  hK : K = G.K
  defs : ∀ j d, Pg[j]? = some d → DefOk G T K mg base j d
  blt : ∀ x, T.blt.contains x = true → mg x = none
  fns : ∀ x j, T.fns.lookup x = some j → mg x = some (.ref (G.fa j)) ∧ G.fok j
  fok : ∀ j, G.fok j → PySem.W.keepIn K (.ref (G.fa j)) = true ∧ Binds K (G.fd j) (T.ps.getD j []) []
  pats : ∀ p ∈ T.pats, KwOk K (G.fd p.1) (T.ps.getD p.1 []) p.2.2 p.2.1
  lc : ∀ sc N l is e, T.lc sc N l is e = true → LcOk G sc N l is e
  lok : ∀ l li, G.lok l li → ∃ d, LL[l]? = some d ∧ LamOk T.no li d
  spl : ∀ j, T.spl.contains j = true → G.spl j
  kds : ∀ p ∈ T.kds, KdF mg K w p.1 p.2
  splD : ∀ j, G.spl j → G.fok j ∧ Pg[j]? = some (splN j)
theorem fn_bot {f : Addr} {fd : FuncData} {ps : List Str} {cf : CF} {c : Callee} (h : ∀ os h, cf c os h = .fail) : FnOk P w K mg base (L2.CX P w) k f fd ps (SpF G cf c) := by
  have bad : ∀ {vs H Q E}, SpF G cf c vs H Q E → False := fun {vs H Q E} ⟨F, r, hh, os, L, R, _, _, out⟩ => by
    rw [h] at out
    exact out
  exact ⟨fun vs H Q E q => (bad q).elim, fun _ _ _ _ _ _ _ _ _ _ _ _ _ q => (bad q).elim⟩
theorem call_fn {n : Nat} (hj : Pg[j]? = some d) (os : List O) (h : HH) : callD Pg LL (n + 1) (.fn j) os h = runD (callD Pg LL n) d os h := by
  show (match Pg[j]? with
    | some d => runD (callD Pg LL n) d os h
    | none => .fail) = _
  rw [hj]
theorem execs_app {M : Model} {A : Around} {E : Value → Shared → Prop} {env : Env} {b : List Stmt} {Q : Flow → Shared → Prop} : ∀ (a : List Stmt) {s : Shared}, wpAny M A (execs a env) (fun f s' => match f with
    | .next => wpAny M A (execs b env) Q E s'
    | f => Q f s') E s → wpAny M A (execs (a ++ b) env) Q E s := by
  have go : ∀ (a : List Stmt) (Γ : _) (p : _) (s : Shared), Γ.In A → Sem.wp M Γ (execs a env) (fun f _ s' => match f with
    | .next => wpAny M A (execs b env) Q E s'
    | f => Q f s') (fun e _ s' => E e s') p s → Sem.wp M Γ (execs (a ++ b) env) (fun f _ s' => Q f s') (fun e _ s' => E e s') p s := by
    intro a
    induction a with
    | nil =>
      intro Γ p s hΓ h
      exact h Γ p hΓ
    | cons x a ih =>
      intro Γ p s hΓ h
      rw [execs_cons, Sem.wp_bind'] at h
      rw [List.cons_append, execs_cons, Sem.wp_bind']
      refine Sem.wp_mono M Γ _ (fun f p' s' h' => ?_) (fun _ _ _ h' => h') _ _ h
      cases f with
      | next => exact ih Γ p' s' hΓ h'
      | ret v => exact h'
      | brk => exact h'
      | cont => exact h'
  exact fun a {s} h Γ p hΓ => go a Γ p s hΓ (h Γ p hΓ)
/-- a def whose last row is return e: what is wanted behind it is said of the very state -/
theorem fn_fin {CX : CXT} {P : Program} {w : World} {K : PySem.W.Frag} {mg : Str → Option Value} {base : Heap} {k : Nat} {f : Addr} {name qual : Str} {params : Arguments} {pre : List Stmt} {e : Expr} {pos : Pos} {scope : Scope} {dV kV doc pm cdv ct oc : Value} {an od : Option Addr}
    {osl : Array (Option Value)} {N ps : List Str} {sp : Sp} (lk : K.lookup f = some ⟨oc, od, .func (PySem.W.fnOf name qual params (pre ++ [.Return (some e) pos]) scope dV kV doc pm an cdv ct), osl⟩) (hcd : PySem.W.codeIn K cdv qual = true) (S : FnScope N ps scope)
    (len : ∀ vs H Q E, sp vs H Q E → vs.length = ps.length)
    (hbody : ∀ (A : Around) (outer : List Env) (s : Shared) (H : Hp) (vs : List V) (Q : VK) (E : XK), Room k (A.deeper (PyProof.Rows.envOfC qual scope s.heap.objs.size f cdv)) → sp vs H Q E →
      ∃ t te, PSs (cxOf CX P w K mg base N qual scope f cdv A outer s H E) pre t ∧ PE (cxOf CX P w K mg base N qual scope f cdv A outer s H E) e te ∧
        t { nx := fun σ' H' => te σ' H' fun v H1 => ∀ s' u, L2.Inv (cxOf CX P w K mg base N qual scope f cdv A outer s H E) [] σ' H1 s' → RelV v u → CE outer P w H s Q u s', rt := Q } (L2.start N vs) H) :
    FnOk P w K mg base CX (k + 1) f (PySem.W.fnOf name qual params (pre ++ [.Return (some e) pos]) scope dV kV doc pm an cdv ct) ps sp := by
  refine ⟨len, fun A outer s H args us vs Q E hr e0 hb r hsp => ?_⟩
  have hl := len _ _ _ _ hsp
  have KX : K.In s.heap := e0.mod.kin.keeps fun b o e => (e0.bs b o e).1
  have lim : s.heap.NoLimit := e0.mod.nolimit.keeps fun b o e => (e0.bs b o e).1
  have hkind : ∀ y ∈ ps.zip us, scope.names.lookup y.1 = some .local ∨ (scope.names.lookup y.1 = some .cell ∧ ((cellsFrom (s.heap.objs.size + 1) scope.names []).lookup y.1).isSome = true) := fun ⟨n, v⟩ hy => by
    rcases S.par n (List.of_mem_zip hy).1 with q | q
    · exact .inl q
    · exact .inr ⟨q, PySem.W.cellsFrom_some _ _ _ (.inl q)⟩
  refine codeAny_call_function hr.depth (KX _ _ lk) rfl S.co S.gen rfl (PySem.W.codeRec_of KX hcd) (hb _ _ _ _ ?_)
  refine wpAny_newFunctionEnv_cells S.kind hkind fun env he s1 x => ?_
  subst he
  refine ⟨lim.keeps x.toInCall.keep, codeAny_func ?_⟩
  obtain ⟨t, te, ht, hte, hq⟩ := hbody A outer s H vs Q E (hr.deeper _) hsp
  have I : L2.Inv (cxOf CX P w K mg base N qual scope f cdv A outer s H E) [] (L2.start N vs) H s1 := inv_start S hr.hd e0 hl r x
  refine execs_app pre (wpAny_mono (ht.run [] s1 (L2.start N vs) H _ I hq) (fun fl s' hs => ?_) fun e s' hs => hs)
  have fin : ∀ {σ' : L2.St} {H' : Hp} {v : V} {u : Value}, L2.Inv (cxOf CX P w K mg base N qual scope f cdv A outer s H E) [] σ' H' s' → RelV v u → Q v H' → CE outer P w H s Q u s' :=
    fun {σ' H' v u} J rv q => ⟨v, H', J.os, J.bare, J.base, J.hok, rv, q⟩
  cases fl with
  | ret u =>
    obtain ⟨v, σ', H', J, rv, q⟩ := hs
    exact fin J rv q
  | next =>
    obtain ⟨σ', H', J, q⟩ := hs
    refine wpAny_execs_cons (wpAny_Return_some (wpAny_mono (hte.run [] s' σ' H' _ J q) (fun u s2 hu => ?_) fun e s2 he => he))
    obtain ⟨v, H1, I1, rv, q1⟩ := hu
    exact q1 s2 u I1 rv
  | brk =>
    obtain ⟨_, _, _, q⟩ := hs
    exact False.elim q
  | cont =>
    obtain ⟨_, _, _, q⟩ := hs
    exact False.elim q
/-- the frame's cells are known behind it -/
theorem un_pub {fs ex : List Addr} {H H1 : Hp} {cs : List (Addr × Obj)} {h h' : Heap} (u : Un fs ex H H1 h h') (young : ∀ c o, cs.lookup c = some o → h.get? c = none) (off : ∀ c o, cs.lookup c = some o → H1 c = none) : Un fs ex H (pubH H1 cs) h h' := by
  have keep : ∀ b u, H1 b = some u → pubH H1 cs b = some u := fun b u e => by
    cases q : cs.lookup b with
    | none => rw [pubH_ne q]; exact e
    | some o => rw [off b o q] at e; cases e
  refine ⟨u.keep, u.slot, fun b o e n hx => ?_, u.there, fun b xs e => keep b _ (u.tups b xs e), fun b o v e => keep b _ (u.frzs b o v e), fun b ps e => ?_⟩
  · cases q : cs.lookup b with
    | none => rw [pubH_ne q]; exact u.free b o e n hx
    | some o2 => rw [young b o2 q] at e; cases e
  · obtain ⟨more, z⟩ := u.tbls b ps e
    exact ⟨more, keep b _ z⟩
theorem links_of : ∀ {as : List Addr} {n : Nat} {p : Nat × Addr}, p ∈ links n as → p.2 ∈ as
  | [], n, p, h => by cases h
  | a :: as, n, p, h => by
    rcases List.mem_cons.mp h with e | e
    · subst e; exact List.mem_cons_self
    · exact List.mem_cons_of_mem _ (links_of e)
theorem clA_mem {cells : List (Str × Addr)} {sc : Scope} (hc : ∀ x, sc.names.lookup x = some .cell → ∃ c, cells.lookup x = some c) : ∀ {bs : List Bool} {xs : List Str} {c : Addr}, clOk sc bs xs = true → c ∈ clA cells bs xs → ∃ x, cells.lookup x = some c
  | [], _, c, _, h => by simp [clA] at h
  | false :: bs, x :: xs, c, h, m => clA_mem hc (bs := bs) (xs := xs) h m
  | true :: bs, x :: xs, c, h, m => by
    simp only [clOk, Bool.and_eq_true, decide_eq_true_eq] at h
    rcases List.mem_cons.mp (show c ∈ (cells.lookup x).getD 0 :: clA cells bs xs from m) with e | e
    · obtain ⟨c2, e2⟩ := hc x h.1
      rw [e2] at e
      exact ⟨x, by rw [e2, e]; rfl⟩
    · exact clA_mem hc h.2 e
  | false :: _, [], _, h, _ => by cases h
  | true :: _, [], _, h, _ => by cases h
theorem I_has {X : Cx} {pins : List (Addr × Obj)} {σ : L2.St} {H : Hp} {s : Shared} (J : L2.Inv X pins σ H s) {x : Str} (h : X.env.scope.names.lookup x = some .cell) : ∃ c, X.env.cells.lookup x = some c := J.ok.has x (.inl h)
theorem ctx_of {X : Cx} {G : GI} {T T' : Tb} {cf : CF} {ce : List (Option Nat)} {Wx : WX} {fd : FuncData} (pg : PgOk X.prog X.w G.toGS T Pg LL X.K X.mg X.base) (ih : ∀ j, FnOk X.prog X.w X.K X.mg X.base (L2.CX X.prog X.w) k (G.fa j) (G.fd j) (T.ps.getD j []) (SpF G.toGS cf (.fn j))) (cl : ClOk X.prog X.w X.K X.mg X.base G.toGS cf k) (sl : SealOk G.toGS cf)
    (calm : X.calm = true) (nd : X.N.Nodup) (hr : Room k X.A) (tk : Takes X (fun c d _ H => Wx c d H)) (hce : CeOk X G ce) (hT : T' = T.no ∨ T' = T ∧ TabOk G.toGS X.mg X.base X.env.qual fd) (ec : X.env.code = fd.code) (hfn : ∀ x, X.fn x = true) (po : PassesOwn (model X.prog X.w) X.A X.env X.xe) (bk : X.env.blockKind = .function) (stk : X.stack = X.env :: X.outer) (frm : X.env.frame = some X.env.locals) (two : 2 ≤ k) : CtxS G T' cf k ce X Wx := by
  have eps : T'.ps = T.ps := by rcases hT with rfl | ⟨rfl, _⟩ <;> rfl
  refine ⟨⟨pg.hK, calm, nd, hr, ?_, ?_, ?_, cl, ?_, ?_, tk, hce, sl, by rcases hT with rfl | ⟨rfl, _⟩ <;> exact pg.spl, by rcases hT with rfl | ⟨rfl, _⟩ <;> exact pg.kds⟩, hfn, po, bk, stk, frm, two, ?_, pg.exm⟩
  · rcases hT with rfl | ⟨rfl, _⟩ <;> exact pg.blt
  · rcases hT with rfl | ⟨rfl, _⟩ <;> exact pg.fns
  · intro j' hf
    obtain ⟨a, b⟩ := pg.fok j' hf
    rw [eps]
    exact ⟨a, b, ih j'⟩
  · rcases hT with rfl | ⟨rfl, ht⟩
    · exact .inl fun _ _ _ _ _ => rfl
    · exact .inr ⟨fd, ht, ec, pg.lc⟩
  · rcases hT with rfl | ⟨rfl, _⟩ <;> exact pg.pats
  · rcases hT with rfl | ⟨rfl, _⟩ <;> exact pg.cls
theorem fn_step {c1 c2 : CF} (two : 2 ≤ k) (pg : PgOk P w G T Pg LL K mg base) (ih : ∀ j, FnOk P w K mg base (L2.CX P w) k (G.fa j) (G.fd j) (T.ps.getD j []) (SpF G (c1) (.fn j))) (cl : ClOk P w K mg base G (c1) k) (sl : SealOk G c1) (hj : Pg[j]? = some d) (hrun : ∀ os h, c2 (.fn j) os h = runD c1 d os h) :
    FnOk P w K mg base (L2.CX P w) (k + 1) (G.fa j) (G.fd j) (T.ps.getD j []) (SpF G (c2) (.fn j)) := by
  obtain ⟨x, qual, st, N, T', Fn, sc, hnp, hns, hcl, hT, hbody⟩ := (pg.defs j d hj).ex
  have S := C8.fnScope_by sc
  obtain ⟨oc, od, dV, kV, doc, pm, an, cdv, ct, osl, efd, lk, hcd⟩ := Fn.ex
  have len : ∀ vs H Q E, SpF G (c2) (.fn j) vs H Q E → vs.length = (T.ps.getD j []).length := by
    rintro vs H Q E ⟨F, r, h, os, L, R, q, wi, out⟩
    rw [hrun] at out
    unfold runD at out
    split at out
    · rename_i hl
      rw [← q.len, hl, hnp]
    · exact out.elim
  have ctx : ∀ (A : Around) (outer : List Env) (s : Shared) (H : Hp) (E : XK) (m : Nat), Room k (A.deeper (PyProof.Rows.envOfC qual (C8.fnScope st) s.heap.objs.size (G.fa j) cdv)) → ∀ (X : Cx), X = cxOf (L2.CX P w) P w K mg base N qual (C8.fnScope st) (G.fa j) cdv A outer s H E →
      CtxS ⟨G, links m (clA X.env.cells d.cl N)⟩ T' (c1) k (mkCe d.cl m) X E := by
    rintro A outer s H E m hr X rfl
    have hq : (cxOf (L2.CX P w) P w K mg base N qual (C8.fnScope st) (G.fa j) cdv A outer s H E).env.qual = qual ++ ".<locals>." := rfl
    have hc0 : (cxOf (L2.CX P w) P w K mg base N qual (C8.fnScope st) (G.fa j) cdv A outer s H E).env.code = (G.fd j).code := by
      rw [efd]
      exact (rfl : cdv = cdv)
    have hT2 : T' = T.no ∨ T' = T ∧ TabOk G (cxOf (L2.CX P w) P w K mg base N qual (C8.fnScope st) (G.fa j) cdv A outer s H E).mg (cxOf (L2.CX P w) P w K mg base N qual (C8.fnScope st) (G.fa j) cdv A outer s H E).base (cxOf (L2.CX P w) P w K mg base N qual (C8.fnScope st) (G.fa j) cdv A outer s H E).env.qual (G.fd j) := by
      rw [hq]
      exact hT
    have ht : Takes (cxOf (L2.CX P w) P w K mg base N qual (C8.fnScope st) (G.fa j) cdv A outer s H E) (fun c d _ H => E c d H) := takes_of rfl rfl rfl rfl
    have hp : PassesOwn (model P w) (cxOf (L2.CX P w) P w K mg base N qual (C8.fnScope st) (G.fa j) cdv A outer s H E).A (cxOf (L2.CX P w) P w K mg base N qual (C8.fnScope st) (G.fa j) cdv A outer s H E).env (cxOf (L2.CX P w) P w K mg base N qual (C8.fnScope st) (G.fa j) cdv A outer s H E).xe := passes_of (X := cxOf (L2.CX P w) P w K mg base N qual (C8.fnScope st) (G.fa j) cdv A outer s H E) rfl
    refine ctx_of (X := cxOf (L2.CX P w) P w K mg base N qual (C8.fnScope st) (G.fa j) cdv A outer s H E) (fd := G.fd j) pg ih cl sl rfl S.nd hr ht (fun i j' hij => ?_) hT2 hc0 (fun _ => rfl) hp ?_ rfl rfl two
    · obtain ⟨y, h1, h2, h3, h4⟩ := clA_get (cells := (cxOf (L2.CX P w) P w K mg base N qual (C8.fnScope st) (G.fa j) cdv A outer s H E).env.cells) hcl hij
      obtain ⟨c, hc⟩ := cell_has (n := s.heap.objs.size + 1) h2
      have hc : (cxOf (L2.CX P w) P w K mg base N qual (C8.fnScope st) (G.fa j) cdv A outer s H E).env.cells.lookup y = some c := hc
      rw [hc] at h4
      refine ⟨y, c, h1, .inr (.inl h2), .inl h2, hc, ?_, .inl rfl⟩
      have := links_mem (n := m) h4
      rw [show m + (j' - m) = j' from by omega] at this
      exact this
    · show Env.blockKind _ = ScopeKind.function
      unfold Env.blockKind
      show (if (C8.fnScope st).kind.isAnnotationScope = true then ScopeKind.function else (C8.fnScope st).kind) = ScopeKind.function
      rw [S.kind]
      rfl
  rcases hbody with ⟨hfin, hbody⟩ | ⟨m, pre, e, pos, hfin, epre, hbody, hlast⟩
  · rw [efd] at lk ⊢
    refine fn_of lk hcd S len fun A outer s H vs Q E hr hsp => ?_
    obtain ⟨F, r, h, os, L, R, q, wi, out⟩ := hsp
    rw [hrun] at out
    unfold runD at out
    split at out
    · rename_i hl
      rw [hfin] at out
      dsimp only at out
      have hvl : vs.length = d.np := by rw [← q.len, hl]
      let X := cxOf (L2.CX P w) P w K mg base N qual (C8.fnScope st) (G.fa j) cdv A outer s H E
      let as := clA X.env.cells d.cl N
      let G' : GI := ⟨G, links h.length as⟩
      obtain ⟨elen, wi'⟩ := wi.enter as
      have has : as.length = d.cl.count true := clA_len hcl
      rw [has] at wi'
      have C : CtxS G' T' (c1) k (mkCe d.cl h.length) X E := ctx A outer s H E h.length hr X rfl
      have lm := Le.more F r H as
      refine ⟨_, snd_body (G := G') (X := X) (Wx := E) C hbody, F, r ++ as, os.map some ++ List.replicate (d.ns - d.np) none, h ++ List.replicate (d.cl.count true) (.cell none), L, R, ⟨?_, wi'⟩, ?_⟩
      · show RS G F (r ++ as) H _ (L2.start N vs) L
        unfold L2.start
        rw [hvl, ← hns]
        exact (q.mono lm fun _ _ => rfl).slots _
      · cases ex : exL (exS (c1) (mkCe d.cl h.length) sf) d.body (os.map some ++ List.replicate (d.ns - d.np) none) (h ++ List.replicate (d.cl.count true) (.cell none)) with
        | fail => rw [ex] at out; exact out
        | exc c ws s' h' =>
          rw [ex] at out
          exact fun F' r' H' L' σ' cls dx b w x => out F' r' H' cls dx (lm.trans b.le) b.kp (WI.to0 w).right x
        | ok fl s' h' =>
          rw [ex] at out
          cases fl with
          | next => exact fun F' r' H' L' σ' b w => out F' r' H' .non [] (lm.trans b.le) b.kp (.sh .non) (WI.to0 w).right
          | ret o => exact fun F' r' H' L' σ' v M b ro w => out F' r' H' v M (lm.trans b.le) b.kp ro ((WI.to0 w).perm (List.perm_append_comm_assoc ..)).right
          | brk => exact out.elim
          | cont => exact out.elim
    · exact out.elim
  · rw [epre] at efd
    rw [efd] at lk ⊢
    refine fn_fin lk hcd S len fun A outer s H vs Q E hr hsp => ?_
    obtain ⟨F, r, h, os, L, R, q, wi, out⟩ := hsp
    rw [hrun] at out
    unfold runD at out
    split at out
    · rename_i hl
      rw [hfin] at out
      dsimp only at out
      have hvl : vs.length = d.np := by rw [← q.len, hl]
      let X := cxOf (L2.CX P w) P w K mg base N qual (C8.fnScope st) (G.fa j) cdv A outer s H E
      let as := clA X.env.cells d.cl N
      let G' : GI := ⟨G, links h.length as⟩
      obtain ⟨elen, wi'⟩ := wi.enter as
      have has : as.length = d.cl.count true := clA_len hcl
      rw [has] at wi'
      have C : CtxS G' T' (c1) k (mkCe d.cl h.length) X E := ctx A outer s H E h.length hr X rfl
      have lm := Le.more F r H as
      refine ⟨_, _, snd_body (G := G') (X := X) (Wx := E) C hbody, (snd (cf := c1) (k := k) ef).1 (G := G') (T := T') X E _ _ _ C.e hlast, F, r ++ as, os.map some ++ List.replicate (d.ns - d.np) none, h ++ List.replicate (d.cl.count true) (.cell none), L, R, ⟨?_, wi'⟩, ?_⟩
      · show RS G F (r ++ as) H _ (L2.start N vs) L
        unfold L2.start
        rw [hvl, ← hns]
        exact (q.mono lm fun _ _ => rfl).slots _
      · cases ex : exL (exS (c1) (mkCe d.cl h.length) sf) d.body (os.map some ++ List.replicate (d.ns - d.np) none) (h ++ List.replicate (d.cl.count true) (.cell none)) with
        | fail => rw [ex] at out; exact out
        | exc c ws s' h' =>
          rw [ex] at out
          exact fun F' r' H' L' σ' cls dx b w x => out F' r' H' cls dx (lm.trans b.le) b.kp (WI.to0 w).right x
        | ok fl s' h' =>
          rw [ex] at out
          cases fl with
          | next =>
            dsimp only at out
            intro F' r' H' L' σ' b w
            refine ⟨F', r', s', h', L', R, b.at w, ?_⟩
            cases ee : evE (c1) (mkCe d.cl h.length) ef m s' h' with
            | fail => rw [ee] at out; exact out
            | exc c ws s2 h2 =>
              rw [ee] at out
              exact fun F2 r2 H2 L2 cls dx b2 w2 x => out F2 r2 H2 cls dx (lm.trans (b.le.trans b2.le)) (fun y hy => (b2.kp y hy).trans (b.kp y hy)) (WI.to0 w2).right x
            | ok o s2 h2 =>
              rw [ee] at out
              intro F2 r2 H2 L2' v M b2 ro w2 s3 u J rv
              unfold leave at out
              dsimp only at out
              split at out
              · rename_i js s4 h3 ep
                have w2' : WI G' F2 r2 H2 h2 (L2' ++ (M ++ R)) := w2.perm (List.perm_append_comm_assoc ..)
                obtain ⟨cs, F3, L3, rs3, w3, l3, k3, jc, fc⟩ := pub_ok C.e.nd (fun x c => own_far J) J.ok J.loc (i := 0) (fun n j' e' => by rw [Nat.zero_add]; exact C.e.ce n j' e') (fun n x c e1 e2 => J.freeC x c e2) b2.rs w2' ep
                have young : ∀ c o, cs.lookup c = some o → s.heap.get? c = none := fun c o e' => by
                  obtain ⟨j', _, hm⟩ := (Jc.mem jc).1 c o e'
                  obtain ⟨x', hx'⟩ := clA_mem (fun x hx => I_has J hx) hcl (links_of hm)
                  exact Heap.get?_none_of_le (J.ok.cab x' c rfl hx')
                have off : ∀ c o, cs.lookup c = some o → H2 c = none := fun c o e' => (fc c o e').2.1
                refine ⟨v, pubH H2 cs, J.os, J.bare, un_pub J.base young off, pub_hok J.hok (fun c o e' => ⟨(fc c o e').1, off c o e'⟩), rv, ?_⟩
                have kk : ∀ y ∈ M ++ (L2' ++ R), pubH H2 cs y = H2 y := fun y hy => k3 y (w2.there hy)
                exact out F3 r2 (pubH H2 cs) v M (lm.trans ((b.le.trans b2.le).trans l3)) (fun y hy => (kk y (by simp [hy])).trans ((b2.kp y hy).trans (b.kp y hy))) (ro.mono l3 fun y hy => kk y (List.mem_append_left _ hy)) (WI.to0 w3).right
              · exact out.elim
          | ret o => exact out.elim
          | brk => exact out.elim
          | cont => exact out.elim
    · exact out.elim
/-- a Mini law holds of a script -/
structure Tells (Pg : List DefR) (LL : List LamR) (k j : Nat) (ns : List Int) : Prop where
  out : Out (callD Pg LL k (.fn j) [.sh (.ks (ns.map .int))] []) (fun o _ _ => ∃ w, o = .sh w ∧ w = .bl true) fun _ _ _ _ => False
theorem RWs.ints' {F : Fz} {r : List Addr} {H : Hp} : ∀ ns : List Int, RWs G F r H (ns.map W.int) (ns.map V.int)
  | [] => .nil
  | n :: ns => .cons (.int n) (RWs.ints' ns)
/-- .. whatever calls are -/
structure TellsC (cf : CF) (j : Nat) (ns : List Int) : Prop where
  out : Out (cf (.fn j) [.sh (.ks (ns.map .int))] []) (fun o _ _ => ∃ w, o = .sh w ∧ w = .bl true) fun _ _ _ _ => False
/-- the law's promise out of Mini's word -/
theorem sp_lawC {cf : CF} {H : Hp} {a : Addr} {ns : List Int} (hT : LamX.Tabs G.tabs H) (hK : K = G.K) (hS : SqL K H a (ns.map V.int)) (t : TellsC cf j ns) : SpF G (cf) (.fn j) [.ref a] H (fun v _ => v = .bl true) fun _ _ _ => False := by
  have fin : ∀ {F : Fz}, WI ⟨G, []⟩ F [] H [] ([] ++ []) → RW G F [] H (.ks (ns.map .int)) (.ref a) → SpF G (cf) (.fn j) [.ref a] H (fun v _ => v = .bl true) fun _ _ _ => False := by
    intro F wi q
    refine ⟨F, [], [], [.sh (.ks (ns.map .int))], [], [], .cons (L := []) (M := []) (.sh q) .nil, wi, ?_⟩
    refine Out.mono t.out (fun o s' h' q => ?_) fun _ _ _ _ z => z.elim
    obtain ⟨w, rfl, rfl⟩ := q
    intro F' r' H' v M l kp ro wi
    cases ro with
    | sh q => cases q; rfl
  have w0 : WI ⟨G, []⟩ (fun _ => False) [] H [] ([] ++ []) := ⟨⟨[], .nil, List.nodup_nil, fun a ha => by cases ha⟩, fun a h => h.elim, hT, fun p hp => by cases hp⟩
  rcases hS with (e | ⟨o, e⟩) | st
  · refine fin (F := fun b => b = a) ⟨⟨[], .nil, List.nodup_nil, fun a ha => by cases ha⟩, fun b hb => ?_, hT, fun p hp => by cases hp⟩ (.ks (.inr (.inr ⟨rfl, e⟩)) (RWs.ints' ns))
    subst hb
    refine ⟨by rw [e]; simp, fun p hp ee => ?_⟩
    obtain ⟨ps, z, _⟩ := hT p hp
    rw [ee, e] at z
    cases z
  · exact fin w0 (.ks (.inr (.inl ⟨o, e⟩)) (RWs.ints' ns))
  · exact fin w0 (.ks (.inl fun H' => by rw [← hK]; exact .inr st) (RWs.ints' ns))
theorem sp_law {H : Hp} {a : Addr} {ns : List Int} (hT : LamX.Tabs G.tabs H) (hK : K = G.K) (hS : SqL K H a (ns.map V.int)) (t : Tells Pg LL k j ns) : SpF G (callD Pg LL k) (.fn j) [.ref a] H (fun v _ => v = .bl true) fun _ _ _ => False := sp_lawC hT hK hS ⟨t.out⟩
end
end Mini
set_option Elab.async false
set_option linter.all false
set_option maxRecDepth 100000
set_option maxHeartbeats 1000000
/-! Mini: a closure is called. -/
namespace Mini
open PySem L2
section
variable {G : GS} {T : Tb} {Pg : List DefR} {LL : List LamR} {P : Program} {w : World} {K : PySem.W.Frag} {mg : Str → Option Value} {base : Heap} {k : Nat}
theorem clo_bot0 {cf : CF} (h : ∀ c os h, cf c os h = .fail) : ClOk0 P w K mg base G cf k := fun A outer s H F r a l cs us vs Q E _ _ _ _ ⟨hh, os, L, R, _, _, out⟩ => by
  rw [h] at out
  exact out.elim
theorem spl_bot {cf : CF} (pg : PgOk P w G T Pg LL K mg base) (h : ∀ c os h, cf c os h = .fail) : SplOk P w K mg base G cf k := fun j hj => by
  have q := pg.fok j (pg.splD j hj).1
  have bad : ∀ {vs H Q E}, SpS G cf j vs H Q E → False := fun {vs H Q E} ⟨_, _, _, _, _, _, _, _, _, _, _, _, _, e, _⟩ => by
    rw [h] at e
    cases e
  exact ⟨_, q.1, q.2, fun vs H Q E z => (bad z).elim, fun _ _ _ _ _ _ _ _ _ _ _ _ _ z => (bad z).elim⟩
theorem clo_bot {cf : CF} (pg : PgOk P w G T Pg LL K mg base) (h : ∀ c os h, cf c os h = .fail) : ClOk P w K mg base G cf k := ⟨clo_bot0 h, spl_bot pg h⟩
/-- the links of a lambda's cells -/
def lamLinks (r : List Addr) (cs : List Nat) : List (Nat × Addr) := cs.filterMap fun j => (r[j]?).map fun c => (j, c)
theorem lamLinks_mem {r : List Addr} {cs : List Nat} {j : Nat} {c : Addr} (h1 : j ∈ cs) (h2 : r[j]? = some c) : (j, c) ∈ lamLinks r cs := List.mem_filterMap.mpr ⟨j, h1, by rw [h2]; rfl⟩
theorem lamLinks_at {r : List Addr} {cs : List Nat} : ∀ p ∈ lamLinks r cs, r[p.1]? = some p.2 := fun p hp => by
  obtain ⟨j, h1, h2⟩ := List.mem_filterMap.mp hp
  cases e : r[j]? with
  | none => rw [e] at h2; cases h2
  | some c => rw [e] at h2; cases h2; exact e
end
end Mini
set_option Elab.async false
set_option linter.all false
set_option maxRecDepth 100000
set_option maxHeartbeats 1000000
/-! Mini: the def that makes all lists of a thing longer. -/
namespace Mini
open PySem L2
theorem allO_len {f : O → Option O} : ∀ {xs ys : List O}, allO f xs = some ys → ys.length = xs.length
  | [], ys, e => by cases e; rfl
  | x :: xs, ys, e => by
    unfold allO at e
    split at e
    · rename_i p ps e1 e2
      cases e
      simp [allO_len e2]
    · cases e
theorem allO_get {f : O → Option O} : ∀ {xs ys : List O} {i : Nat} {o : O}, allO f xs = some ys → xs[i]? = some o → ∃ o', ys[i]? = some o' ∧ f o = some o'
  | [], ys, i, o, e, h => by simp at h
  | x :: xs, ys, i, o, e, h => by
    unfold allO at e
    split at e
    · rename_i p ps e1 e2
      cases e
      cases i with
      | zero => simp at h; subst h; exact ⟨p, rfl, e1⟩
      | succ i =>
        obtain ⟨o', q1, q2⟩ := allO_get e2 (show xs[i]? = some o by simpa using h)
        exact ⟨o', by simpa using q1, q2⟩
    · cases e
section
variable {G : GS} {F F1 : Fz} {r r1 : List Addr} {H H1 : Hp} {R L L1 : List Addr} {σ σ1 : L2.St} {s s1 : SL} {h h1 : HH} {k j m : Nat} {c1 : CF}
theorem ROs.cut : ∀ {A : List O} {o : O} {B : List O} {vs : List V} {M : List Addr}, ROs G F r H (A ++ o :: B) vs M → ∃ vA x vB MA Mo MB, vs = vA ++ x :: vB ∧ M = MA ++ (Mo ++ MB) ∧ vA.length = A.length ∧ ROs G F r H A vA MA ∧ RO G F r H o x Mo ∧ ROs G F r H B vB MB
  | [], o, B, _, _, .cons a b => ⟨[], _, _, [], _, _, rfl, rfl, rfl, .nil, a, b⟩
  | y :: A, o, B, _, _, .cons (x := _) (v := v) (L := L) a b => by
    obtain ⟨vA, x, vB, MA, Mo, MB, rfl, rfl, e3, q1, q2, q3⟩ := ROs.cut b
    exact ⟨v :: vA, x, vB, L ++ MA, Mo, MB, rfl, by rw [List.append_assoc], by simp [e3], .cons a q1, q2, q3⟩
def rSpl (G : GS) (cf : CF) (j i : Nat) : TE := fun (σ : L2.St) H Q => ∃ v, σ[i]? = some (some v) ∧ SpS G cf j [v] H Q fun _ _ _ => False
theorem spl_loop {J : It} {Gd : Hp → Prop} {xs ys : List O} {vs : List V} {M R' : List Addr} {v : V} {D : Ends} {z : Option V} (wk : Walk J vs.length Gd (YAt vs)) (ha : allO (spoilN m) xs = some ys) (ros : ROs G F r H xs vs M) (wi : WI ⟨G, []⟩ F r H h (M ++ R'))
    (hG : ∀ H', Le F r H F r H' → (∀ b ∈ R', H' b = H b) → Gd H') (hc : ∀ o h, c1 (.spl j) [o] h = splR m [o] h)
    (hD : ∀ z H', Le F r H F r H' → (∀ b ∈ R', H' b = H b) → ROs G F r H' ys vs M → WI ⟨G, []⟩ F r H' h (M ++ R') → D.nx [some v, z] H') :
    ∃ W : Nat → Nat → L2.St → Hp → Prop, (∃ m, W 0 m [some v, z] H) ∧ ∀ i m σ H, W i m σ H →
      (J.stop i H ∧ D.nx σ H) ∨ (J.go i H ∧ ∃ N : L2.St → Hp → Prop, (∀ σ' H', N σ' H' → ∃ m', m' < m ∧ W (i + 1) m' σ' H') ∧ ∀ x H', J.yld i H x H' → gName 1 x σ H' fun σ2 H2 => tDrop (rSpl G c1 j 1) { D with nx := N, ct := N, bk := D.nx } σ2 H2) := by
  have hl := ros.len
  have hyl := allO_len ha
  refine for_it wk (fun i σ' H' => (∃ z, σ' = [some v, z]) ∧ Le F r H F r H' ∧ (∀ b ∈ R', H' b = H b) ∧ ROs G F r H' (ys.take i ++ xs.drop i) vs M ∧ WI ⟨G, []⟩ F r H' h (M ++ R')) ?_ ?_ ?_ ?_
  · exact ⟨⟨z, rfl⟩, Le.refl _ _ _, fun _ _ => rfl, by simpa using ros, wi⟩
  · rintro i σ' H' _ ⟨_, l, kp, _, _⟩
    exact hG H' l kp
  · rintro i x σ' H2 H3 hi ⟨⟨z, rfl⟩, l, kp, ro, w⟩ ⟨rfl, ex⟩
    show tDrop (rSpl G c1 j 1) _ ([some v, z].set 1 (some x)) H3
    have hx : i < xs.length := by omega
    have ed : xs.drop i = xs[i] :: xs.drop (i + 1) := (List.getElem_cons_drop hx).symm
    rw [ed] at ro
    obtain ⟨vA, x', vB, MA, Mo, MB, rfl, rfl, e3, q1, q2, q3⟩ := ro.cut
    have ei : vA.length = i := by rw [e3, List.length_take]; omega
    have e4 : x' = x := by
      rw [List.getElem?_append_right (by omega)] at ex
      simpa [ei] using ex
    subst e4
    obtain ⟨o', eo', es⟩ := allO_get ha (List.getElem?_eq_getElem hx)
    have w1 : WI ⟨G, []⟩ F r H3 h (Mo ++ ((MA ++ MB) ++ R')) := w.perm (by
      have z : (MA ++ (Mo ++ MB)).Perm (Mo ++ (MA ++ MB)) := List.perm_append_comm_assoc ..
      have z2 := z.append_right R'
      rw [List.append_assoc Mo] at z2
      exact z2)
    refine ⟨x', rfl, F, r, h, xs[i], o', x', Mo, (MA ++ MB) ++ R', [], h, rfl, q2, w1, ?_, fun H4 l4 kp4 ro4 w4 => ?_⟩
    · rw [hc]
      show ofO (spoilN m xs[i]) [] h = _
      rw [es]
      rfl
    · refine ⟨⟨some x', rfl⟩, l.trans l4, fun b hb => (kp4 b (List.mem_append_right _ hb)).trans (kp b hb), ?_, w4.perm (by
        have z : (Mo ++ (MA ++ MB)).Perm (MA ++ (Mo ++ MB)) := List.perm_append_comm_assoc ..
        have z2 := z.append_right R'
        rw [List.append_assoc Mo] at z2
        exact z2)⟩
      have hy : i < ys.length := by omega
      have ey : ys[i]'hy = o' := by
        rw [List.getElem?_eq_getElem hy] at eo'
        exact Option.some.inj eo'
      rw [List.take_succ_eq_append_getElem hy, ey, List.append_assoc]
      exact ROs.append (q1.mono l4 fun b hb => kp4 b (by simp [hb])) (.cons ro4 (q3.mono l4 fun b hb => kp4 b (by simp [hb])))
  · rintro σ' H' ⟨⟨z, rfl⟩, l, kp, ro, w⟩
    have e : ys.take vs.length ++ xs.drop vs.length = ys := by
      rw [List.take_of_length_le (by omega), List.drop_of_length_le (by omega), List.append_nil]
    rw [e] at ro
    exact hD z H' l kp ro w
end
end Mini
set_option Elab.async false
set_option linter.all false
set_option maxRecDepth 100000
set_option maxHeartbeats 1000000
/-! Mini: the def that makes all lists of a thing longer, level by level. -/
namespace Mini
open PySem L2
section
variable {G : GS} {F F1 : Fz} {r r1 : List Addr} {H H1 : Hp} {R L L1 : List Addr} {σ σ1 : L2.St} {s s1 : SL} {h h1 : HH} {k j m : Nat} {c1 c2 : CF} {T : Tb} {Pg : List DefR} {LL : List LamR} {P : Program} {w : World} {K : PySem.W.Frag} {mg : Str → Option Value} {base : Heap} {Wx : WX}
/-- a look at what sort of thing it is -/
theorem isty_q {ts : List Ty} {o : O} {v : V} {z : Option V} {b : Bool} {ce : List (Option Nat)} {n : Nat} {Q : Bool → Hp → Prop} (ro : RO G F r H o v L) (wi : WI ⟨G, []⟩ F r H h (L ++ R)) (e : isTyW ts o.toW = some b)
    (q : ∀ H', Le F r H F r H' → (∀ b ∈ L ++ R, H' b = H b) → WI ⟨G, []⟩ F r H' h (L ++ R) → Q b H') : TMt ⟨G, []⟩ Wx (evT c1 ce (n + 2) (.isty ts (.var 0))) [some v, z] H Q := by
  obtain ⟨Lh, qh, wh⟩ := wi.hide
  refine ⟨_, r, [some (.sh o.toW), none], Mini.hide h, [], Lh ++ R, ⟨RS.so (L := []) (M := []) (.sh (ro.share Le.share fun b hb => ⟨rfl, .inr hb⟩)) (.nn .nil), by simpa using wh⟩, ?_⟩
  have hv : vw (Mini.hide h) o.toW = o.toW := by
    have : ∀ w : W, (∀ i, w ≠ .hp i) → vw (Mini.hide h) w = w := fun w hw => by
      cases w <;> first | rfl | exact absurd rfl (hw _)
    refine this _ fun i ei => ?_
    rw [ei] at e
    simp [isTyW, tyOk] at e
  have ev : evT c1 ce (n + 2) (.isty ts (.var 0)) [some (.sh o.toW), none] (Mini.hide h) = .ok b [some (.sh o.toW), none] (Mini.hide h) := by
    have e1 : ev1 (evE c1 ce n) (.var 0) [some (.sh o.toW), none] (Mini.hide h) = .ok (vw (Mini.hide h) o.toW) [some (.sh o.toW), none] (Mini.hide h) := rfl
    have e2 : evE c1 ce (n + 1) (.isty ts (.var 0)) [some (.sh o.toW), none] (Mini.hide h) = .ok (.sh (.bl b)) [some (.sh o.toW), none] (Mini.hide h) := by
      have e0 : evE c1 ce (n + 1) (.isty ts (.var 0)) [some (.sh o.toW), none] (Mini.hide h) = (ev1 (evE c1 ce n) (.var 0) [some (.sh o.toW), none] (Mini.hide h)).bind fun w s h => match isTyW ts w with
        | some b => Mini.R.ok (O.sh (.bl b)) s h
        | none => .fail := rfl
      rw [e0, e1, hv]
      show (match isTyW ts o.toW with
        | some b => Mini.R.ok (O.sh (.bl b)) [some (.sh o.toW), none] (Mini.hide h)
        | none => .fail) = _
      rw [e]
    show ((((evE c1 ce (n + 1) (.isty ts (.var 0)) [some (.sh o.toW), none] (Mini.hide h)).bind fun o s h => Mini.R.ok (Dl.now o.toW) s h).bind fun d s h => ofO (d.get s h) s h).bind fun w s h => ofO (truW w) s h) = _
    rw [e2]
    rfl
  rw [ev]
  intro F1 r1 H1 L1 b1 w1
  obtain ⟨le, kL, w2⟩ := wi.back qh b1.le b1.kp (w1.of (R' := []) (fun a ha => by cases ha) List.nodup_nil)
  exact q H1 le kL w2
theorem ctx_fn {T' : Tb} {d : DefR} {N : List Str} {qual : Str} {sc : Scope} {cdv : Value} (two : 2 ≤ k) (pg : PgOk P w G T Pg LL K mg base) (ih : ∀ j, FnOk P w K mg base (L2.CX P w) k (G.fa j) (G.fd j) (T.ps.getD j []) (SpF G (c1) (.fn j))) (cl : ClOk P w K mg base G (c1) k) (sl : SealOk G c1)
    (S : FnScope N (T.ps.getD j []) sc) (hcl : clOk sc d.cl N = true) (hT : T' = T.no ∨ T' = T ∧ TabOk G mg base (qual ++ ".<locals>.") (G.fd j)) (hc0 : cdv = (G.fd j).code) :
    ∀ (A : Around) (outer : List Env) (s : Shared) (H : Hp) (E : XK) (m : Nat), Room k (A.deeper (PyProof.Rows.envOfC qual sc s.heap.objs.size (G.fa j) cdv)) → ∀ (X : Cx), X = cxOf (L2.CX P w) P w K mg base N qual sc (G.fa j) cdv A outer s H E →
      CtxS ⟨G, links m (clA X.env.cells d.cl N)⟩ T' (c1) k (mkCe d.cl m) X E := by
  rintro A outer s H E m hr X rfl
  have hq : (cxOf (L2.CX P w) P w K mg base N qual sc (G.fa j) cdv A outer s H E).env.qual = qual ++ ".<locals>." := rfl
  have hT2 : T' = T.no ∨ T' = T ∧ TabOk G (cxOf (L2.CX P w) P w K mg base N qual sc (G.fa j) cdv A outer s H E).mg (cxOf (L2.CX P w) P w K mg base N qual sc (G.fa j) cdv A outer s H E).base (cxOf (L2.CX P w) P w K mg base N qual sc (G.fa j) cdv A outer s H E).env.qual (G.fd j) := by
    rw [hq]
    exact hT
  have ht : Takes (cxOf (L2.CX P w) P w K mg base N qual sc (G.fa j) cdv A outer s H E) (fun c d _ H => E c d H) := takes_of rfl rfl rfl rfl
  have hp : PassesOwn (model P w) (cxOf (L2.CX P w) P w K mg base N qual sc (G.fa j) cdv A outer s H E).A (cxOf (L2.CX P w) P w K mg base N qual sc (G.fa j) cdv A outer s H E).env (cxOf (L2.CX P w) P w K mg base N qual sc (G.fa j) cdv A outer s H E).xe := passes_of (X := cxOf (L2.CX P w) P w K mg base N qual sc (G.fa j) cdv A outer s H E) rfl
  refine ctx_of (X := cxOf (L2.CX P w) P w K mg base N qual sc (G.fa j) cdv A outer s H E) (fd := G.fd j) pg ih cl sl rfl S.nd hr ht (fun i j' hij => ?_) hT2 hc0 (fun _ => rfl) hp ?_ rfl rfl two
  · obtain ⟨y, h1, h2, h3, h4⟩ := clA_get (cells := (cxOf (L2.CX P w) P w K mg base N qual sc (G.fa j) cdv A outer s H E).env.cells) hcl hij
    obtain ⟨c, hc⟩ := cell_has (n := s.heap.objs.size + 1) h2
    have hc : (cxOf (L2.CX P w) P w K mg base N qual sc (G.fa j) cdv A outer s H E).env.cells.lookup y = some c := hc
    rw [hc] at h4
    refine ⟨y, c, h1, .inr (.inl h2), .inl h2, hc, ?_, .inl rfl⟩
    have := links_mem (n := m) h4
    rw [show m + (j' - m) = j' from by omega] at this
    exact this
  · show Env.blockKind _ = ScopeKind.function
    unfold Env.blockKind
    show (if sc.kind.isAnnotationScope = true then ScopeKind.function else sc.kind) = ScopeKind.function
    rw [S.kind]
    rfl
/-- what the text of such a def is -/
structure SplT (T : Tb) (N : List Str) (sc : Scope) (j : Nat) (sts : List Stmt) : Prop where
  ex : ∃ c1 etg eit x px y py cp xp p1 p2 c2 sa2 p3, sts = [.If c1 [.For etg eit [.Expr (.Call (.Name x px) [.Name y py] [] cp) xp] [] p1] [] p2, .If c2 sa2 [] p3] ∧
    chkT T N ef sc (.isty [.list, .tuple] (.var 0)) c1 = true ∧ chkTgt N sc (fun _ => true) (.one 1) etg = true ∧ plainE eit = true ∧ chkE T N ef sc (.var 0) eit = true ∧ isGlF T sc x j = true ∧ nameOk N sc 1 y = true ∧
    chkT T N ef sc (.isty [.list] (.var 0)) c2 = true ∧ all2 (chkS T N (sf - 1) sc) [.app (.var 0) (.cst late)] sa2 = true
theorem all2_one {α β : Type} {f : α → β → Bool} {a : α} {l : List β} (h : all2 f [a] l = true) : ∃ x, l = [x] ∧ f a x = true := by
  match l, h with
  | [], h => cases h
  | [x], h => simp only [all2, Bool.and_eq_true, and_true] at h; exact ⟨x, rfl, h⟩
  | _ :: _ :: _, h => simp [all2] at h
theorem all2_two {α β : Type} {f : α → β → Bool} {a b : α} {l : List β} (h : all2 f [a, b] l = true) : ∃ x y, l = [x, y] ∧ f a x = true ∧ f b y = true := by
  match l, h with
  | [], h => cases h
  | [x], h => simp [all2] at h
  | [x, y], h => simp only [all2, Bool.and_eq_true, and_true] at h; exact ⟨x, y, rfl, h.1, h.2⟩
  | _ :: _ :: _ :: _, h => simp [all2] at h
theorem all2_nil {α β : Type} {f : α → β → Bool} {l : List β} (h : all2 f [] l = true) : l = [] := by
  cases l with
  | nil => rfl
  | cons _ _ => cases h
theorem if_inv {N : List Str} {sc : Scope} {n : Nat} {c : ME} {a b : List MS} {st : Stmt} (h : chkS T N (n + 1) sc (.if_ c a b) st = true) : ∃ ec sa sb p, st = .If ec sa sb p ∧ chkT T N ef sc c ec = true ∧ all2 (chkS T N n sc) a sa = true ∧ all2 (chkS T N n sc) b sb = true := by
  unfold chkS at h
  dsimp only at h
  split at h
  · simp only [Bool.and_eq_true] at h
    exact ⟨_, _, _, _, rfl, h.1, h.2.1, h.2.2⟩
  · cases h
theorem for_inv {N : List Str} {sc : Scope} {n : Nat} {tg : Tg} {e : ME} {a : List MS} {st : Stmt} (h : chkS T N (n + 1) sc (.for_ tg (.seq e) a) st = true) : ∃ et ee sa p, st = .For et ee sa [] p ∧ chkTgt N sc (fun _ => true) tg et = true ∧ plainE ee = true ∧ chkE T N ef sc e ee = true ∧ all2 (chkS T N n sc) a sa = true := by
  unfold chkS at h
  dsimp only at h
  split at h
  · simp only [Bool.and_eq_true] at h
    exact ⟨_, _, _, _, rfl, h.1, h.2.1, h.2.2.1, h.2.2.2⟩
  · cases h
theorem expr_inv {N : List Str} {sc : Scope} {n : Nat} {e : ME} {st : Stmt} (h : chkS T N (n + 1) sc (.expr e) st = true) : ∃ x p, st = .Expr x p ∧ chkE T N ef sc e x = true := by
  unfold chkS at h
  dsimp only at h
  split at h
  · simp only [Bool.and_eq_true] at h
    exact ⟨_, _, rfl, h.2⟩
  · cases h
theorem call_inv {N : List Str} {sc : Scope} {n : Nat} {e : ME} {x : Expr} (h : chkE T N (n + 1) sc (.call j [e] []) x = true) : ∃ f fp a p, x = .Call (.Name f fp) [a] [] p ∧ isGlF T sc f j = true ∧ chkE T N n sc e a = true := by
  unfold chkE at h
  simp only [Bool.and_eq_true] at h
  have h := h.2
  split at h
  · rw [Bool.and_eq_true] at h
    obtain ⟨h1, h2⟩ := h
    split at h2
    · simp only [Bool.and_eq_true] at h2
      obtain ⟨a, rfl, h3⟩ := all2_one h2.2
      exact ⟨_, _, a, _, rfl, h1, h3⟩
    · rename_i e; cases e
    · cases h2
  · cases h
theorem mv_inv {N : List Str} {sc : Scope} {n i : Nat} {x : Expr} (h : chkE T N (n + 1) sc (.var i) x = true) : ∃ y p, x = .Name y p ∧ nameOk N sc i y = true := by
  unfold chkE at h
  simp only [Bool.and_eq_true] at h
  have h := h.2
  split at h
  · exact ⟨_, _, rfl, h⟩
  · cases h
theorem app_inv {N : List Str} {sc : Scope} {n : Nat} {o e : ME} {st : Stmt} (h : chkS T N (n + 1) sc (.app o e) st = true) : ∃ eo ap ee cp p, st = .Expr (.Call (.Attribute eo "append" ap) [ee] [] cp) p ∧ noCall0 eo = true ∧ (ap.endLine == cp.line) = true ∧ chkE T N ef sc o eo = true ∧ chkE T N ef sc e ee = true := by
  unfold chkS at h
  dsimp only at h
  split at h
  · simp only [Bool.and_eq_true, decide_eq_true_eq] at h
    obtain ⟨rfl, h1, h2, h3, h4⟩ := h
    exact ⟨_, _, _, _, _, rfl, h1, h2, h3, h4⟩
  · cases h
theorem cst_inv {N : List Str} {sc : Scope} {n : Nat} {l : List Nat} {x : Expr} (h : chkE T N (n + 1) sc (.cst (.str l)) x = true) : ∃ a p, x = .Constant (.str ⟨l.toArray⟩) a p := by
  unfold chkE at h
  simp only [Bool.and_eq_true] at h
  have h := h.2
  split at h
  · rename_i c _ _ _
    cases c with
    | str t =>
      have e := of_decide_eq_true (show decide (t = ⟨l.toArray⟩) = true from h)
      subst e
      exact ⟨_, _, rfl⟩
    | _ => cases h
  · cases h
theorem splT_of {N : List Str} {sc : Scope} {sts : List Stmt} (h : all2 (chkS T N sf sc) (splN j).body sts = true) : SplT T N sc j sts := by
  obtain ⟨st1, st2, rfl, h1, h2⟩ := all2_two h
  obtain ⟨ec, sa, sb, p2, rfl, q1, q2, q3⟩ := if_inv (n := 39) h1
  obtain ⟨ec2, sa2, sb2, p3, rfl, t1, t2, t3⟩ := if_inv (n := 39) h2
  obtain rfl := all2_nil q3
  obtain rfl := all2_nil t3
  obtain ⟨st3, rfl, q4⟩ := all2_one q2
  obtain ⟨et, ee, sc3, p1, rfl, u1, u2, u3, u4⟩ := for_inv (n := 38) q4
  obtain ⟨st4, rfl, u5⟩ := all2_one u4
  obtain ⟨x, xp, rfl, u6⟩ := expr_inv (n := 37) u5
  obtain ⟨f, fp, a, p, rfl, u7, u8⟩ := call_inv (n := 59) u6
  obtain ⟨y, py, rfl, u9⟩ := mv_inv (n := 58) u8
  exact ⟨_, _, _, _, _, _, _, _, _, _, _, _, _, _, rfl, q1, u1, u2, u3, u7, u9, t1, t2⟩
theorem splR_ok {n : Nat} {o o' : O} {h h' : HH} {s' : SL} (e : splR n [o] h = .ok o' s' h') : spoilN n o = some o' := by
  have e : ofO (spoilN n o) ([] : SL) h = Mini.R.ok o' s' h' := e
  cases q : spoilN n o with
  | none => rw [q] at e; cases e
  | some p => rw [q] at e; cases e; rfl
theorem plain_all2 {n : Nat} : ∀ {ws : List W}, ws.all (plainT n) = true → allO (spoilN n) (ws.map .sh) = some (ws.map .sh)
  | [], _ => rfl
  | w :: ws, e => by
    rw [List.all_cons, Bool.and_eq_true] at e
    have e1 : spoilN n (.sh w) = some (.sh w) := by
      cases n with
      | zero => cases e.1
      | succ n =>
        show (if plainT (n + 1) w then some (O.sh w) else none) = _
        rw [if_pos e.1]
    show (match spoilN n (.sh w), allO (spoilN n) (ws.map .sh) with
      | some p, some ps => some (p :: ps)
      | _, _ => none) = _
    rw [e1, plain_all2 e.2]
    rfl
theorem shs_mapW : ∀ ws : List W, shs? (ws.map .sh) = some ws
  | [] => rfl
  | w :: ws => by
    show (match shs? (ws.map .sh) with
      | some ws => some (w :: ws)
      | none => none) = _
    rw [shs_mapW ws]
theorem spl_step (two : 2 ≤ k) (pg : PgOk P w G T Pg LL K mg base) (ih : ∀ j, FnOk P w K mg base (L2.CX P w) k (G.fa j) (G.fd j) (T.ps.getD j []) (SpF G (c1) (.fn j))) (cl : ClOk P w K mg base G (c1) k) (sl : SealOk G c1)
    (hc1 : ∀ j o h, c1 (.spl j) [o] h = splR m [o] h) (hc2 : ∀ j o h, c2 (.spl j) [o] h = splR (m + 1) [o] h) : SplOk P w K mg base G c2 (k + 1) := by
  intro j hj
  obtain ⟨hfok, hP⟩ := pg.splD j hj
  obtain ⟨q1, q2⟩ := pg.fok j hfok
  refine ⟨_, q1, q2, ?_⟩
  obtain ⟨x, qual, st, N, T', Fn, sc, hnp, hns, hcl, hT, hbody⟩ := (pg.defs j _ hP).ex
  have S := C8.fnScope_by sc
  obtain ⟨oc, od, dV, kV, doc, pm, an, cdv, ct, osl, efd, lk, hcd⟩ := Fn.ex
  have hb : all2 (chkS T' N sf (C8.fnScope st)) (splN j).body (C8.fnBody st) = true := by
    rcases hbody with ⟨_, h⟩ | ⟨_, _, _, _, h, _⟩
    · exact h
    · cases h
  obtain ⟨e1, etg, eit, x1, px, y1, py, cp, xp, p1, p2, e2, sa2, p3, ebody, k1, k2, k3, k4, k5, k6, k7, k8⟩ := (splT_of hb).ex
  have len : ∀ vs H Q E, SpS G c2 j vs H Q E → vs.length = (T.ps.getD j []).length := by
    rintro vs H Q E ⟨F, r, h, o, o', v, L, R, s', h', rfl, _⟩
    rw [← hnp]; rfl
  have hN : ∃ a b, N = [a, b] := by
    match N, hns with
    | [a, b], _ => exact ⟨a, b, rfl⟩
  obtain ⟨na, nb, rfl⟩ := hN
  have hcode : (G.fd j).code = cdv := by rw [efd]
  have ctx := ctx_fn (T' := T') (d := splN j) (N := [na, nb]) (qual := qual) (sc := C8.fnScope st) (cdv := cdv) two pg ih cl sl S hcl hT hcode.symm
  rw [efd] at lk ⊢
  refine fn_of lk hcd S len fun A outer s H vs Q E hr hsp => ?_
  obtain ⟨F, r, h, o, o', v, L, R, s', h', rfl, ro, wi, ec, fin⟩ := hsp
  rw [hc2] at ec
  have es := splR_ok ec
  let X := cxOf (L2.CX P w) P w K mg base [na, nb] qual (C8.fnScope st) (G.fa j) cdv A outer s H E
  have C : CtxS ⟨G, []⟩ T' c1 k [none, none] X E := ctx A outer s H E 0 hr X rfl
  have t1 : PT X e1 (TMt ⟨G, []⟩ E (evT c1 [none, none] (58 + 2) (.isty [.list, .tuple] (.var 0)))) := (snd (cf := c1) (k := k) ef).2 (G := ⟨G, []⟩) (T := T') X E _ _ _ C.e k1
  have t2 : PT X e2 (TMt ⟨G, []⟩ E (evT c1 [none, none] (58 + 2) (.isty [.list] (.var 0)))) := (snd (cf := c1) (k := k) ef).2 (G := ⟨G, []⟩) (T := T') X E _ _ _ C.e k7
  have it0 : PE X eit (tVar 0) := chk_var k4
  have pg1 : PG X etg (gName 1) := (chkTgt_pg C.e.calm C.e.nd (fun x _ => C.fn x) k2).1
  obtain ⟨g1, g2, g3⟩ := glF_ok (X := X) k5
  obtain ⟨f1, _⟩ := C.e.fns _ _ g2
  obtain ⟨ps, d2, d3, d4⟩ := C.e.clo.2 j hj
  have pc : PS X (.Expr (.Call (.Name x1 px) [.Name y1 py] [] cp) xp) (tDrop (rSpl G c1 j 1)) := ps_expr (pe_mspl (G := ⟨G, []⟩) d4 C.e.room g1 f1 d2 d3 C.e.tk (nmOk_ok g3).1 (name_pe k6) rfl)
  obtain ⟨st5, rfl, k9⟩ := all2_one k8
  obtain ⟨eo, ap, ee, cp2, p4, rfl, k10, k11, k12, k13⟩ := app_inv (n := 38) k9
  obtain ⟨a1, p5, rfl⟩ := cst_inv (n := 59) k13
  have pa : PS X (.Expr (.Call (.Attribute eo "append" ap) [.Constant (.str ⟨[108, 97, 116, 101].toArray⟩) a1 p5] [] cp2) p4) (tDrop fun σ H Q => ∃ v, σ[0]? = some (some v) ∧ (tyV X.K "list" v H ∧ rAppend v [.str ⟨[108, 97, 116, 101].toArray⟩] H Q)) :=
    (ps_expr (pe_bm PySem.F.plainAttrs_list PySem.F.slot_list_append rfl mt_append (chk_var k12) (pa_cons pe_str pa_nil) (plain_base (chk_plain k12) k10) rfl k11 rfl rfl)).weak fun D σ H q => q
  have hst : L2.start [na, nb] [v] = [some v, none] := rfl
  rw [ebody, hst]
  -- the second look and the end
  have tail2 : ∀ {z : Option V} {H2 : Hp} {o2 : O}, Le F r H F r H2 → (∀ b ∈ R, H2 b = H b) → RO G F r H2 o2 v L → WI ⟨G, []⟩ F r H2 h (L ++ R) →
      ((∃ ys, o2 = .lst ys ∧ ys.length < line ∧ o' = .lst (ys ++ [.sh late])) ∨ (isTyW [.list] o2.toW = some false ∧ o' = o2)) →
      tIfS (TMt ⟨G, []⟩ E (evT c1 [none, none] (58 + 2) (.isty [.list] (.var 0)))) (tDrop fun σ H Q => ∃ v, σ[0]? = some (some v) ∧ (tyV X.K "list" v H ∧ rAppend v [.str ⟨[108, 97, 116, 101].toArray⟩] H Q)) tNext { nx := fun _ H' => Q .non H', rt := Q } [some v, z] H2 := by
    intro z H2 o2 l2 kp2 ro2 wi2 hc
    rcases hc with ⟨ys, rfl, hl, rfl⟩ | ⟨hi, rfl⟩
    · refine isty_q (b := true) ro2 wi2 rfl fun H3 l3 kp3 wi3 => ?_
      rw [if_pos rfl]
      have ro3 := ro2.mono l3 fun b hb => kp3 b (List.mem_append_left _ hb)
      cases ro3 with
      | lst ha qa =>
        rename_i a vs M
        have hin : a ∈ (a :: M) ++ R := by simp
        have nd := wi3.nodup
        have na : ∀ b ∈ M ++ R, b ≠ a := fun b hb e => by
          have := (List.nodup_cons.mp nd).1
          exact this (e ▸ hb)
        refine ⟨.ref a, rfl, .inl ⟨rfl, vs, .of ha⟩, a, vs, _, rfl, rfl, ha, by rw [← qa.len, ← line_eq]; exact hl, ?_⟩
        have l6 := Le.own wi3 hin (by rw [ha]; simp) (by rw [ha]; simp) (.lst (vs ++ [.str ⟨[108, 97, 116, 101].toArray⟩]))
        have w6 := WI.own wi3 hin (by rw [ha]; simp) (by rw [ha]; simp) (.lst (vs ++ [.str ⟨[108, 97, 116, 101].toArray⟩]))
        have ne : ∀ b ∈ M ++ R, upd H3 a (.lst (vs ++ [.str ⟨[108, 97, 116, 101].toArray⟩])) b = H3 b := fun b hb => upd_ne (na b hb)
        refine fin _ ((l2.trans l3).trans l6) (fun b hb => (ne b (List.mem_append_right _ hb)).trans ((kp3 b (List.mem_append_right _ hb)).trans (kp2 b hb))) ?_ w6
        refine .lst upd_same ?_
        have z := ROs.append (qa.mono l6 fun b hb => ne b (List.mem_append_left _ hb)) (ROs.cons (G := G) (F := F) (r := r) (H := upd H3 a (.lst (vs ++ [.str ⟨[108, 97, 116, 101].toArray⟩]))) (L := []) (M := []) (.sh (.str [108, 97, 116, 101])) .nil)
        rw [List.append_nil, List.append_nil] at z
        exact z
    · refine isty_q (b := false) ro2 wi2 hi fun H3 l3 kp3 wi3 => ?_
      rw [if_neg (by simp)]
      exact fin H3 (l2.trans l3) (fun b hb => (kp3 b (List.mem_append_right _ hb)).trans (kp2 b hb)) (ro2.mono l3 fun b hb => kp3 b (List.mem_append_left _ hb)) wi3
  have no1 : ∀ {b : Bool} {wi : TI} {tb : TS}, isTyW [.list, .tuple] o.toW = some false → (isTyW [.list] o.toW = some false ∧ o' = o) →
      tSeq (tIfS (TMt ⟨G, []⟩ E (evT c1 [none, none] (58 + 2) (.isty [.list, .tuple] (.var 0)))) (tFor wi (gName 1) tb) tNext) (tIfS (TMt ⟨G, []⟩ E (evT c1 [none, none] (58 + 2) (.isty [.list] (.var 0)))) (tDrop fun σ H Q => ∃ v, σ[0]? = some (some v) ∧ (tyV X.K "list" v H ∧ rAppend v [.str ⟨[108, 97, 116, 101].toArray⟩] H Q)) tNext) { nx := fun _ H' => Q .non H', rt := Q } [some v, none] H := by
    intro _ wi0 tb h1 h2
    refine isty_q (b := false) ro wi h1 fun H3 l3 kp3 wi3 => ?_
    rw [if_neg (by simp)]
    exact tail2 (o2 := o) l3 (fun b hb => kp3 b (List.mem_append_right _ hb)) (ro.mono l3 fun b hb => kp3 b (List.mem_append_left _ hb)) wi3 (.inr h2)
  have mk : ∀ {wi : TI}, PI X etg eit wi → PSs X [.If e1 [.For etg eit [.Expr (.Call (.Name x1 px) [.Name y1 py] [] cp) xp] [] p1] [] p2, .If e2 [.Expr (.Call (.Attribute eo "append" ap) [.Constant (.str ⟨[108, 97, 116, 101].toArray⟩) a1 p5] [] cp2) p4] [] p3]
      (tSeq (tIfS (TMt ⟨G, []⟩ E (evT c1 [none, none] (58 + 2) (.isty [.list, .tuple] (.var 0)))) (tFor wi (gName 1) (tDrop (rSpl G c1 j 1))) tNext) (tIfS (TMt ⟨G, []⟩ E (evT c1 [none, none] (58 + 2) (.isty [.list] (.var 0)))) (tDrop fun σ H Q => ∃ v, σ[0]? = some (some v) ∧ (tyV X.K "list" v H ∧ rAppend v [.str ⟨[108, 97, 116, 101].toArray⟩] H Q)) tNext)) := fun {wi} hi =>
    pss_cons (ps_if t1 (pss_one (ps_for C.po C.e.calm hi pg1 (pss_one pc) (plain_fold k3))) pss_nil) (pss_one (ps_if t2 (pss_one pa) pss_nil))
  cases o with
  | lst xs =>
    have es : (match allO (spoilN m) xs with
      | some ys => if ys.length < line then some (O.lst (ys ++ [.sh late])) else none
      | none => none) = some o' := es
    cases ey : allO (spoilN m) xs with
    | none => rw [ey] at es; cases es
    | some ys =>
      rw [ey] at es
      dsimp only at es
      split at es
      · rename_i hl
        cases es
        refine ⟨_, mk (pi_list it0), ?_⟩
        refine isty_q (b := true) ro wi rfl fun H3 l3 kp3 wi3 => ?_
        rw [if_pos rfl]
        cases ro with
        | lst ha qa =>
          rename_i a vs M
          have ha3 : H3 a = some (.lst vs) := (kp3 a (by simp)).trans ha
          have qa3 := qa.mono l3 fun b hb => kp3 b (by simp [hb])
          have w3 : WI ⟨G, []⟩ F r H3 h (M ++ (a :: R)) := wi3.perm (by
            have z : (a :: (M ++ R)).Perm (M ++ (a :: R)) := List.perm_middle.symm
            exact z)
          refine ⟨.ref a, rfl, a, rfl, ⟨vs, .of ha3⟩, ?_⟩
          refine spl_loop (wk := walk_list) (m := m) (M := M) (R' := a :: R) ey qa3 w3 (fun H' _ kp => .of ((kp a (by simp)).trans ha3)) (hc1 j) fun z H4 l4 kp4 ro4 w4 => ?_
          have ha4 : H4 a = some (.lst vs) := (kp4 a (by simp)).trans ha3
          refine tail2 (o2 := .lst ys) (l3.trans l4) (fun b hb => (kp4 b (by simp [hb])).trans (kp3 b (by simp [hb]))) (.lst ha4 ro4) (w4.perm (by
            have z : (M ++ (a :: R)).Perm (a :: (M ++ R)) := List.perm_middle
            exact z)) (.inl ⟨ys, rfl, hl, rfl⟩)
      · cases es
  | tup xs =>
    have es : (match allO (spoilN m) xs with
      | some ys => some (O.tup ys)
      | none => none) = some o' := es
    cases ey : allO (spoilN m) xs with
    | none => rw [ey] at es; cases es
    | some ys =>
      rw [ey] at es
      cases es
      refine ⟨_, mk (pi_tup it0), ?_⟩
      refine isty_q (b := true) ro wi rfl fun H3 l3 kp3 wi3 => ?_
      rw [if_pos rfl]
      cases ro with
      | tup ha qa =>
        rename_i a vs
        have ha3 : H3 a = some (.tup vs) := l3.t _ _ ha
        have qa3 := qa.mono l3 fun b hb => kp3 b (by simp [hb])
        refine ⟨.ref a, rfl, a, rfl, ⟨vs, .of ha3⟩, ?_⟩
        refine spl_loop (wk := walk_tup) (m := m) (M := L) (R' := R) ey qa3 wi3 (fun H' l' _ => .of (l'.t _ _ ha3)) (hc1 j) fun z H4 l4 kp4 ro4 w4 => ?_
        exact tail2 (o2 := .tup ys) (l3.trans l4) (fun b hb => (kp4 b hb).trans (kp3 b (by simp [hb]))) (.tup (l4.t _ _ ha3) ro4) w4 (.inr ⟨rfl, rfl⟩)
  | dic t ks vs =>
    cases es
    exact ⟨_, mk (pi_list it0), no1 (b := true) rfl ⟨rfl, rfl⟩⟩
  | sh w0 =>
    have es : (if plainT (m + 1) w0 then some (O.sh w0) else none) = some o' := es
    split at es
    · rename_i hp
      cases es
      cases w0 with
      | non => exact ⟨_, mk (pi_list it0), no1 (b := true) rfl ⟨rfl, rfl⟩⟩
      | bl b => exact ⟨_, mk (pi_list it0), no1 (b := true) rfl ⟨rfl, rfl⟩⟩
      | int i => exact ⟨_, mk (pi_list it0), no1 (b := true) rfl ⟨rfl, rfl⟩⟩
      | str i => exact ⟨_, mk (pi_list it0), no1 (b := true) rfl ⟨rfl, rfl⟩⟩
      | tup ws =>
        have hp : ws.all (plainT m) = true := hp
        refine ⟨_, mk (pi_tup it0), ?_⟩
        refine isty_q (b := true) ro wi rfl fun H3 l3 kp3 wi3 => ?_
        rw [if_pos rfl]
        cases ro with
        | sh ro =>
          cases ro with
          | tup ha qa =>
            rename_i a vs
            have ha3 : H3 a = some (.tup vs) := l3.t _ _ ha
            have qa3 : ROs G F r H3 (ws.map .sh) vs [] := ROs.shs (qa.mono l3)
            refine ⟨.ref a, rfl, a, rfl, ⟨vs, .of ha3⟩, ?_⟩
            refine spl_loop (wk := walk_tup) (m := m) (M := []) (R' := R) (plain_all2 hp) qa3 wi3 (fun H' l' _ => .of (l'.t _ _ ha3)) (hc1 j) fun z H4 l4 kp4 ro4 w4 => ?_
            exact tail2 (o2 := .sh (.tup ws)) (l3.trans l4) (fun b hb => (kp4 b hb).trans (kp3 b (by simpa using hb))) (.sh (.tup (l4.t _ _ ha3) (ro4.ofShs (shs_mapW ws)).1)) w4 (.inr ⟨rfl, rfl⟩)
      | _ => simp [plainT] at hp
    · cases es
end
end Mini
set_option Elab.async false
set_option linter.all false
set_option maxRecDepth 100000
set_option maxHeartbeats 1000000
/-! Mini: a closure's step. -/
namespace Mini
open PySem L2
end Mini
set_option Elab.async false
set_option linter.all false
set_option maxRecDepth 100000
set_option maxHeartbeats 1000000
/-! Mini: a closure's body is run. -/
namespace Mini
open PySem L2
section
variable {G : GS} {T : Tb} {Pg : List DefR} {LL : List LamR} {P : Program} {w : World} {K : PySem.W.Frag} {mg : Str → Option Value} {base : Heap} {k : Nat}
theorem call_clo {n l : Nat} {d : LamR} {cs : List Nat} (hl : LL[l]? = some d) (os : List O) (h : HH) : callD Pg LL (n + 1) (.clo l cs) os h = runL (callD Pg LL n) d cs os h := by
  show (match LL[l]? with
    | some d => runL (callD Pg LL n) d cs os h
    | none => .fail) = _
  rw [hl]
theorem vals_of : ∀ (ws : List W) (p : Nat → W → V → Prop), (∀ k w, ws[k]? = some w → ∃ v, p k w v) → ∃ zs : List V, zs.length = ws.length ∧ ∀ (k : Nat) (w : W) (v : V), ws[k]? = some w → zs[k]? = some v → p k w v
  | [], p, _ => ⟨[], rfl, fun k w v e => by simp at e⟩
  | w0 :: ws, p, h => by
    obtain ⟨v0, h0⟩ := h 0 w0 rfl
    obtain ⟨zs, h1, h2⟩ := vals_of ws (fun k => p (k + 1)) fun k w e => h (k + 1) w (by simpa using e)
    refine ⟨v0 :: zs, by simp [h1], fun k w v e1 e2 => ?_⟩
    cases k with
    | zero => simp at e1 e2; subst e1 e2; exact h0
    | succ k => exact h2 k w v (by simpa using e1) (by simpa using e2)
theorem RWs.of_get {F : Fz} {r : List Addr} {H : Hp} : ∀ {ws : List W} {zs : List V}, zs.length = ws.length → (∀ (k : Nat) (w : W) (v : V), ws[k]? = some w → zs[k]? = some v → RW G F r H w v) → RWs G F r H ws zs
  | [], [], _, _ => .nil
  | w :: ws, v :: zs, hl, h => .cons (h 0 w v rfl rfl) (RWs.of_get (by simpa using hl) fun k w' v' e1 e2 => h (k + 1) w' v' (by simpa using e1) (by simpa using e2))
  | [], _ :: _, hl, _ => by simp at hl
  | _ :: _, [], hl, _ => by simp at hl
theorem RWs.slots {F : Fz} {r : List Addr} {H : Hp} : ∀ {ws : List W} {zs : List V} (n : Nat), RWs G F r H ws zs → RS G F r H ((ws.map fun w => some (O.sh w)) ++ List.replicate n none) (zs.map some ++ List.replicate n none) []
  | [], _, n, .nil => by
    induction n with
    | zero => exact .nil
    | succ n ih => exact .nn ih
  | w :: ws, _, n, .cons a b => RS.so (L := []) (M := []) (.sh a) (RWs.slots n b)
theorem clo_step {c1 c2 : CF} (pg : PgOk P w G T Pg LL K mg base) (fns : ∀ j, FnOk P w K mg base (L2.CX P w) k (G.fa j) (G.fd j) (T.ps.getD j []) (SpF G (c1) (.fn j))) (clk : ClOk P w K mg base G (c1) k) (sl : SealOk G c1) (hrun : ∀ l d cs os h, LL[l]? = some d → c2 (.clo l cs) os h = runL c1 d cs os h) : ClOk0 P w K mg base G (c2) (k + 1) := by
  intro A outer s H F r a l cs us vs Q E hr e0 q rv ⟨h, os, L, R, ros, wi, out⟩
  cases q with
  | @clo _ li _ _ c' pm ctv cells hlk hf hc' hcl hce hinj hhas =>
    obtain ⟨d, hl, lo⟩ := pg.lok l li hlk
    rw [hrun l d cs _ _ hl] at out
    obtain ⟨ps, N, LK, hnp, hnf, hnN, hbody, hbind⟩ := lo.ex
    unfold runL at out
    split at out
    · rename_i hlen
      split at out
      · rename_i ws h0 et
        · skip
          have hr' : ∀ j ∈ cs, ∃ c, r[j]? = some c := fun j hj => by
            obtain ⟨i, hi⟩ := List.getElem?_of_mem hj
            have hi2 : i < li.fv.length := by rw [← hcl]; exact (List.getElem?_eq_some_iff.mp hi).1
            obtain ⟨c, _, e⟩ := hce i j _ hi (List.getElem?_eq_getElem hi2)
            exact ⟨c, e⟩
          obtain ⟨cc, w2, l2, k2, hwl, hg, hk⟩ := take_ok wi hr' et
          have at_ : ∀ c o, cc.lookup c = some o → s.heap.get? c = some o ∧ H c = some (cellHO o) := fun c o e => ⟨(e0.hok c _ (hk c o e).1).1, (hk c o e).1⟩
          have nfr : ∀ c o, cc.lookup c = some o → c ∉ frs outer := fun c o e hm => by
            have := e0.frf c hm
            rw [(at_ c o e).2] at this
            cases this
          have nbs : ∀ c o, cc.lookup c = some o → base.get? c = none := fun c o e => by
            cases z : base.get? c with
            | none => rfl
            | some o2 =>
              have := (e0.bs c o2 z).2
              rw [(at_ c o e).2] at this
              cases this
          obtain ⟨hof, _⟩ := e0.hok a _ hf
          obtain ⟨⟨oc, cvs, t, hoc, hdc, hvc⟩, _, _⟩ := e0.hok c' _ hc'
          have hlv : vs.length = ps.length := by rw [← ros.len, hlen.1, hnp]
          have hlu : us.length = ps.length := by rw [← rv.length]; exact hlv
          obtain ⟨zs, hz1, hz2⟩ := vals_of ws (fun k w v => ∃ (j : Nat) (c : Addr) (o : Obj) (u : Value), cs[k]? = some j ∧ r[j]? = some c ∧ cc.lookup c = some o ∧ o.data = .cell (some u) ∧ RelV v u ∧ RW G F r (unpH H cc) w v) fun k w e => by
            have hk1 : k < cs.length := by rw [← hwl]; exact (List.getElem?_eq_some_iff.mp e).1
            obtain ⟨c, o, u, v, f1, f2, f3, f4, f5⟩ := hg k _ w (List.getElem?_eq_getElem hk1) e
            exact ⟨v, _, c, o, u, List.getElem?_eq_getElem hk1, f1, f2, f3, f4, f5⟩
          refine PySem.W.kla_callFunE hr.depth hof rfl LK.co LK.gen rfl ⟨c', oc, cvs, t, rfl, hoc, hdc, hvc⟩ ?_
          rw [hbind us cells pm (.ref c') ctv hlu]
          refine wpAny_pure (wpAny_newFunctionEnv LK.nocell (fun y hy => LK.par y.1 (List.of_mem_zip hy).1) (fun h₁ hns hsb => ⟨((e0.mod.nolimit.keeps fun b o e => (e0.bs b o e).1)).fresh _ hsb, ?_⟩) LK.kind)
          have kp : ∀ b o, s.heap.get? b = some o → h₁.get? b = some o := fun b o e => hsb.extBut b o (Nat.ne_of_lt (Heap.lt_size e)) (Heap.get?_push_of_some _ e)
          have idx : ∀ {k : Nat} {x : Str}, li.fv[k]? = some x → ∃ j c o u v w, cs[k]? = some j ∧ r[j]? = some c ∧ cells.lookup x = some c ∧ cc.lookup c = some o ∧ o.data = .cell (some u) ∧ ws[k]? = some w ∧ RelV v u ∧ RW G F r (unpH H cc) w v := fun {k x} e => by
            have hk1 : k < cs.length := by rw [hcl]; exact (List.getElem?_eq_some_iff.mp e).1
            have ej := List.getElem?_eq_getElem hk1
            have ew := List.getElem?_eq_getElem (show k < ws.length by rw [hwl]; exact hk1)
            obtain ⟨c, o, u, v, f1, f2, f3, f4, f5⟩ := hg k _ _ ej ew
            obtain ⟨c2, e1, e2⟩ := hce k _ x ej e
            rw [f1] at e2
            cases e2
            exact ⟨_, c, o, u, v, _, ej, f1, e1, f2, f3, ew, f4, f5⟩
          have known : ∀ x c, cells.lookup x = some c → x ∈ li.fv ∧ ∃ o, cc.lookup c = some o ∧ ∃ v, o.data = .cell v := fun x c e => by
            have hx := hhas x c e
            obtain ⟨i, hi⟩ := List.getElem?_of_mem hx
            obtain ⟨j, c2, o, u, v, w, _, _, e2, e3, e4, _⟩ := idx hi
            rw [e] at e2
            cases e2
            exact ⟨hx, o, e3, _, e4⟩
          have all : ∀ x ∈ li.fv, ∃ c, cells.lookup x = some c := fun x hx => by
            obtain ⟨i, hi⟩ := List.getElem?_of_mem hx
            obtain ⟨j, c2, _, _, _, _, _, _, e2, _⟩ := idx hi
            exact ⟨c2, e2⟩
          have vals : ∀ (k : Nat) (x : Str) (v : V), li.fv[k]? = some x → zs[k]? = some v → ∃ c o u, cells.lookup x = some c ∧ cc.lookup c = some o ∧ o.data = .cell (some u) ∧ RelV v u := fun k x v e1 e2 => by
            obtain ⟨j, c, o, u, _, w, q1, q2, q3, q4, q5, q6, _⟩ := idx e1
            obtain ⟨j', c', o', u', p1, p2, p3, p4, p5, _⟩ := hz2 k w v q6 e2
            rw [q1] at p1
            cases p1
            rw [q2] at p2
            cases p2
            rw [q4] at p3
            cases p3
            exact ⟨c, o, u', q3, q4, p4, p5⟩
          have J := lam_in (f := a) (c' := c') (qual := li.qual) (tk := s.toks + (ps.zip us).length) (E := fun cls d H1 => (∀ c o, cc.lookup c = some o → H1 c = none) → E cls d (pubH H1 cc)) LK e0 hr.hd at_ known all hinj vals (by rw [hz1, hwl, hcl]) hlv rv hns kp
          let X := lamC P w K mg base N li.qual li.scope a c' cells A outer s (unpH H cc) fun cls d H1 => (∀ c o, cc.lookup c = some o → H1 c = none) → E cls d (pubH H1 cc)
          let G' : GI := ⟨G, lamLinks r cs⟩
          let ce : List (Option Nat) := List.replicate d.np none ++ cs.map some
          have CE' : CeOk X G' ce := fun i j hij => by
            have hij : (List.replicate d.np (none : Option Nat) ++ cs.map some)[i]? = some (some j) := hij
            by_cases hi : i < d.np
            · rw [List.getElem?_append_left (by simpa using hi), List.getElem?_replicate] at hij
              split at hij <;> cases hij
            · rw [List.getElem?_append_right (by simp; omega), List.length_replicate, List.getElem?_map] at hij
              cases ej : cs[i - d.np]? with
              | none => rw [ej] at hij; cases hij
              | some j' =>
                rw [ej] at hij
                cases hij
                have hk1 : i - d.np < li.fv.length := by rw [← hcl]; exact (List.getElem?_eq_some_iff.mp ej).1
                have ex := List.getElem?_eq_getElem hk1
                obtain ⟨j2, c, o, u, _, w, q1, q2, q3, q4, q5, q6, _⟩ := idx ex
                rw [ej] at q1
                cases q1
                obtain ⟨more, eN⟩ := LK.pre
                refine ⟨_, c, ?_, .inr (.inr (LK.cap _ (List.mem_of_getElem? ex))), .inr (LK.cap _ (List.mem_of_getElem? ex)), q3, lamLinks_mem (List.mem_of_getElem? ej) q2, .inr ⟨nbs c o q4, fun hm => ?_⟩⟩
                · show N[i]? = _
                  have g1 : ps.length ≤ i := by omega
                  have g2 : i - ps.length < li.fv.length := by rw [← hnp]; exact hk1
                  rw [eN, List.getElem?_append_right g1, List.getElem?_append_left g2, ← hnp]
                  exact ex
                · rcases List.mem_cons.mp hm with e | e
                  · have lt := Heap.lt_size (at_ c o q4).1
                    have e : c = s.heap.objs.size := e
                    rw [e] at lt
                    exact Nat.lt_irrefl _ lt
                  · exact nfr c o q4 e
          have C : CtxE G' T.no (c1) k ce X (fun cls d H1 => (∀ c o, cc.lookup c = some o → H1 c = none) → E cls d (pubH H1 cc)) := by
            refine ⟨pg.hK, rfl, LK.nd, hr.deeper _, pg.blt, pg.fns, fun j hx => ?_, clk, .inl fun _ _ _ _ _ => rfl, pg.pats, takes_of rfl rfl rfl rfl, CE', sl, pg.spl, pg.kds⟩
            obtain ⟨a2, a3⟩ := pg.fok j hx
            exact ⟨a2, a3, fns j⟩
          have body := (snd (cf := c1) (k := k) ef).1 (T := T.no) X _ ce _ _ C hbody
          have links : ∀ p ∈ G'.own, r[p.1]? = some p.2 := lamLinks_at
          have hdat : ∀ c o, cc.lookup c = some o → ∃ v, o.data = .cell v := fun c o e => let ⟨u, z⟩ := (hk c o e).2.2; ⟨_, z⟩
          have look : ∀ (i : Nat) (x : Str) (c : Addr) (v : V), X.N[i]? = some x → (vs.map some ++ (zs.map some ++ List.replicate (N.length - ps.length - li.fv.length) none))[i]? = some (some v) → Vis X.env.scope x → (X.env.kindOf x = some .cell ∨ X.env.kindOf x = some .free) → X.env.cells.lookup x = some c →
              ∃ u o, RelV v u ∧ cc.lookup c = some o ∧ o.data = .cell (some u) := by
            intro i x c v h1 h2 h3 h4 h5
            have h5 : cells.lookup x = some c := h5
            obtain ⟨n, hn⟩ := List.getElem?_of_mem (known x c h5).1
            have hn2 := (List.getElem?_eq_some_iff.mp hn).1
            obtain ⟨more, eN⟩ := LK.pre
            have hN : N[ps.length + n]? = some x := by
              rw [eN, List.getElem?_append_right (Nat.le_add_right ..), Nat.add_sub_cancel_left, List.getElem?_append_left hn2]
              exact hn
            have ei : i = ps.length + n := nodup_ix LK.nd h1 hN
            subst ei
            rw [List.getElem?_append_right (by rw [List.length_map, hlv]; exact Nat.le_add_right ..), List.length_map, hlv, Nat.add_sub_cancel_left, List.getElem?_append_left (by rw [List.length_map, hz1, hwl, hcl]; exact hn2), List.getElem?_map] at h2
            cases ez : zs[n]? with
            | none => rw [ez] at h2; cases h2
            | some v2 =>
              rw [ez] at h2
              cases h2
              obtain ⟨c2, o, u, q1, q2, q3, q4⟩ := vals n x _ hn ez
              rw [h5] at q1
              cases q1
              exact ⟨u, o, q4, q2, q3⟩
          have fin : ∀ {F1 r1 H1 L1 s1 h1 h2 σ1}, σ1 = (vs.map some ++ (zs.map some ++ List.replicate (N.length - ps.length - li.fv.length) none)) → RS G F1 r1 H1 s1 σ1 L1 → ∀ {R1 : List Addr}, WI G' F1 r1 H1 h1 (L1 ++ R1) → (∀ c o, cc.lookup c = some o → H1 c = none) → leaveL ce cs s1 h1 = some h2 →
              ∃ F2 L2', WI G' F2 r1 (pubH H1 cc) h2 (L2' ++ R1) ∧ Le F1 r1 H1 F2 r1 (pubH H1 cc) ∧ ∀ b, H1 b ≠ none → pubH H1 cc b = H1 b := by
            intro F1 r1 H1 L1 s1 h1 h2 σ1 eσ rs R1 w1 hn lv
            subst eσ
            unfold leaveL at lv
            split at lv
            · rename_i js s2 h3 ep
              split at lv
              · rename_i ejs
                cases lv
                subst ejs
                obtain ⟨cs2, F2, L2', rs2, w2, l2', k2', jc, fc⟩ := pub_okG (X := X) (G := G') (fun c o => cc.lookup c = some o) LK.nd hinj (fun x c _ z => by cases z) look (i := 0) (fun n j e => by rw [Nat.zero_add]; exact CE' n j e) (fun n x c _ e => by
                  obtain ⟨_, o, q, _⟩ := known x c e
                  exact hn c o q) rs w1 ep
                have same : pubH H1 cs2 = pubH H1 cc := pub_same fun c => by
                  cases e2 : cs2.lookup c with
                  | some o => exact (fc c o e2).1.symm
                  | none =>
                    cases e3 : cc.lookup c with
                    | none => rfl
                    | some o =>
                      obtain ⟨j, hj, er⟩ := (hk c o e3).2.1
                      obtain ⟨c3, o3, q1, q2⟩ := jc.mem.2 j hj
                      have q1 := links _ q1
                      rw [er] at q1
                      cases q1
                      rw [e2] at q2
                      cases q2
                rw [same] at w2 l2' k2'
                exact ⟨F2, L2', w2, l2', k2'⟩
              · cases lv
            · cases lv
          have slotsRS : RS G F r (unpH H cc) (os.map some ++ (ws.map fun w => some (.sh w)) ++ List.replicate (d.ns - d.np - d.nf) none) (vs.map some ++ (zs.map some ++ List.replicate (N.length - ps.length - li.fv.length) none)) L := by
            have q1 := (ros.mono l2 fun b hb => k2 b (List.mem_append_left _ hb)).slots 0
            have q2 := RWs.slots (d.ns - d.np - d.nf) (RWs.of_get hz1 fun n w v e1 e2 => let ⟨_, _, _, _, _, _, _, _, _, z⟩ := hz2 n w v e1 e2; z)
            have q3 := RS.app (G := ⟨G, []⟩) q1 q2
            simp only [List.replicate_zero, List.append_nil] at q3
            rw [List.append_assoc, hnN, hnp, hnf]
            rw [hnN, hnp, hnf] at q3
            exact q3
          have wi' : WI G' F r (unpH H cc) h0 (L ++ R) := WI.of0 (G := G') w2 links
          show codeAny (model P w) A (.expr li.body X.env) _ _
          refine PySem.W.kla_codeExpr (wpAny_mono (body.run [] _ _ _ (fun v H1 => (∀ c o, cc.lookup c = some o → H1 c = none) → Q v (pubH H1 cc)) J ⟨F, r, _, h0, L, R, ⟨slotsRS, wi'⟩, ?_⟩) (fun v s' hq => ?_) fun e s' hq => ?_)
          · cases ee : evE (c1) ce ef d.body (os.map some ++ (ws.map fun w => some (.sh w)) ++ List.replicate (d.ns - d.np - d.nf) none) h0 with
            | fail => rw [ee] at out; exact out.elim
            | ok o s1 h1 =>
              rw [ee] at out
              dsimp only at out
              intro F1 r1 H1 L1 v M b1 ro w1 hn
              split at out
              · rename_i h2 elv
                obtain ⟨F2, L2', w3, l3, k3⟩ := fin rfl b1.rs (w1.perm (List.perm_append_comm_assoc ..)) hn elv
                have kk : ∀ b ∈ M ++ (L1 ++ R), pubH H1 cc b = H1 b := fun b hb => k3 b (w1.there hb)
                exact out F2 r1 (pubH H1 cc) v M ((l2.trans b1.le).trans l3) (fun b hb => (kk b (by simp [hb])).trans ((b1.kp b hb).trans (k2 b (List.mem_append_right _ hb)))) (ro.mono l3 fun b hb => kk b (List.mem_append_left _ hb)) (WI.to0 w3).right
              · exact out.elim
            | exc c ws2 s1 h1 =>
              rw [ee] at out
              dsimp only at out
              intro F1 r1 H1 L1 cls dx b1 w1 x hn
              split at out
              · rename_i h2 elv
                obtain ⟨F2, L2', w3, l3, k3⟩ := fin rfl b1.rs w1 hn elv
                have kk : ∀ b ∈ L1 ++ R, pubH H1 cc b = H1 b := fun b hb => k3 b (w1.there hb)
                exact out F2 r1 (pubH H1 cc) cls dx ((l2.trans b1.le).trans l3) (fun b hb => (kk b (by simp [hb])).trans ((b1.kp b hb).trans (k2 b (List.mem_append_right _ hb)))) (WI.to0 w3).right (XR.mono (G := G') l3 (fun d fs _ e => by rw [k3 d (by rw [e]; simp)]; exact e) rfl x)
              · exact out.elim
          · obtain ⟨v2, H1, J2, rv2, qv⟩ := hq
            obtain ⟨un2, kk⟩ := reun (fs := frs outer) (ex := []) (H := H) (cs := cc) J2.base at_ fun c o e => ⟨nfr c o e, by simp⟩
            exact ⟨v2, pubH H1 cc, J2.os, J2.bare, un2, repub_hok J2.hok kk, rv2, qv fun c o e => (kk c o e).2⟩
          · refine wpAny_mono hq (fun _ s2 c2 => ?_) fun e2 s2 c2 => ?_
            · exact repub_cx at_ nfr hdat (fun cls d H1 hn he => he hn) c2
            · exact repub_cx at_ nfr hdat (fun cls d H1 hn he => he hn) c2
      · exact out.elim
    · exact out.elim
/-- all defs, all closures, at each level -/
theorem seal_D (n : Nat) : SealOk G (callD Pg LL n) := fun t os h => .inl (by cases n <;> rfl)
theorem lv (pg : PgOk P w G T Pg LL K mg base) : ∀ n, (∀ j, FnOk P w K mg base (L2.CX P w) (n + 2) (G.fa j) (G.fd j) (T.ps.getD j []) (SpF G (callD Pg LL n) (.fn j))) ∧ ClOk P w K mg base G (callD Pg LL n) (n + 2)
  | 0 => ⟨fun j => fn_bot fun _ _ => rfl, clo_bot pg fun _ _ _ => rfl⟩
  | n + 1 => by
    obtain ⟨h1, h2⟩ := lv pg n
    refine ⟨fun j => ?_, clo_step pg h1 h2 (seal_D n) fun _ _ _ _ _ hl => call_clo hl _ _, spl_step (m := n) (by omega) pg h1 h2 (seal_D n) (fun j o h => by cases n <;> rfl) fun j o h => rfl⟩
    cases hj : Pg[j]? with
    | none => exact fn_bot fun os h => (by
        show (match Pg[j]? with
          | some d => runD (callD Pg LL n) d os h
          | none => .fail) = _
        rw [hj])
    | some d => exact fn_step (by omega) pg h1 h2 (seal_D n) hj (call_fn hj)
end
end Mini
set_option Elab.async false
set_option linter.all false
set_option maxRecDepth 100000
set_option maxHeartbeats 1000000
/-! Mini: the end of a law: the program's data, the facts of the head. -/
namespace Mini
open PySem L2
/-! ### binding -/
theorem fm_congr {α β : Type} {f g : α → Option β} : ∀ {l : List α}, (∀ a ∈ l, f a = g a) → l.filterMap f = l.filterMap g
  | [], _ => rfl
  | a :: l, h => by
    rw [List.filterMap_cons, List.filterMap_cons, h a List.mem_cons_self, fm_congr fun b hb => h b (List.mem_cons_of_mem _ hb)]
theorem lookup_zip {α β : Type} [BEq α] [LawfulBEq α] : ∀ {ps : List α} {us : List β}, ps.Nodup → us.length = ps.length → (∀ n ∈ ps, ((ps.zip us).lookup n).isSome = true) ∧ (ps.filterMap fun n => ((ps.zip us).lookup n).map (n, ·)) = ps.zip us
  | [], _, _, _ => ⟨fun _ h => (by cases h), rfl⟩
  | p :: ps, [], _, h => by cases h
  | p :: ps, u :: us, nd, h => by
    obtain ⟨h1, h2⟩ := List.nodup_cons.mp nd
    obtain ⟨i1, i2⟩ := lookup_zip h2 (us := us) (by simpa using h)
    have ne : ∀ n ∈ ps, (n == p) = false := fun n hn => by
      cases e : n == p with
      | false => rfl
      | true => exact absurd (eq_of_beq e ▸ hn) h1
    refine ⟨fun n hn => ?_, ?_⟩
    · rcases List.mem_cons.mp hn with rfl | hn
      · simp [List.zip_cons_cons, List.lookup]
      · simp only [List.zip_cons_cons, List.lookup, ne n hn]
        exact i1 n hn
    · rw [List.zip_cons_cons, List.filterMap_cons]
      simp only [List.lookup, beq_self_eq_true, Option.map_some]
      congr 1
      refine (fm_congr fun n hn => ?_).trans i2
      simp only [ne n hn]
def isPlainArgs (a : Arguments) : Bool := match a with
  | ⟨[], _, none, [], [], none, []⟩ => true
  | _ => false
theorem bind_plain {fd : FuncData} {us : List Value} {ps : List Str} (hp : isPlainArgs fd.params = true) (hd : fd.defaults = .none) (hps : fd.params.args.map (·.arg) = ps) (nd : ps.Nodup) (hl : us.length = ps.length) : bindArgs fd ⟨us, []⟩ = pure (ps.zip us) := by
  obtain ⟨h1, h2⟩ := lookup_zip nd hl
  obtain ⟨name, qual, params, body, scope, gl, cl, dV, kV, doc, pm, an, cdv, ct, bl⟩ := fd
  obtain ⟨po, as, va, ko, kd, kw, df⟩ := params
  unfold isPlainArgs at hp
  dsimp only at hp hd hps
  split at hp
  · rename_i a e
    cases e
    subst hd hps
    unfold bindArgs
    have e1 : seqItems? Value.none = pure none := rfl
    have m0 : List.filter (fun n => (List.lookup n ((List.map (fun x => x.arg) as).zip us)).isNone) (List.map (fun x => x.arg) as) = [] := by
      rw [List.filter_eq_nil_iff]
      intro n hn
      have := h1 n hn
      simp only [Option.isNone_iff_eq_none, ne_eq]
      intro e
      rw [e] at this
      cases this
    have nl : ¬ (us.length > (List.map (fun x => x.arg) as).length) := by omega
    simp only [List.map_nil, List.nil_append, List.append_nil, List.forIn_nil, pure_bind, e1, Option.getD_none, List.drop_nil, List.length_nil, Nat.sub_zero, Nat.zero_sub, Option.isNone_none, Bool.and_true, List.take_length, m0, List.isEmpty_nil, Bool.not_true, Bool.false_eq_true, if_false, List.drop_length, List.zip_nil_right, h2]
    simp [m0, h2]
    intro z
    simp at hl
    omega
  · cases hp
/-! ### lambdas checked -/
def lamChk (T0 : Tb) (LL : List LamR) (LN : List (List Str)) (sc : Scope) (N : List Str) (l : Nat) (is : List Nat) (e : Expr) : Bool := match LL[l]?, LN[l]?, e with
  | some d, some M, .Lambda params body scope _ =>
    isPlainArgs params && (decide ((params.args.map (·.arg)).Nodup) && (decide (scope.kind = .function) && (!scope.isCoroutine && (!scope.isGenerator && (decide M.Nodup && (decide (M.take ((params.args.map (·.arg)).length + is.length) = params.args.map (·.arg) ++ is.map fun i => N.getD i "") &&
      ((params.args.map (·.arg)).all (fun x => decide (scope.names.lookup x = some .local)) && ((is.map fun i => N.getD i "").all (fun x => decide (scope.names.lookup x = some .free) && (decide (sc.names.lookup x = some .cell) || decide (sc.names.lookup x = some .free))) &&
      (scope.names.all (fun y => match y.2 with
        | .free => (is.map fun i => N.getD i "").contains y.1
        | .cell => false
        | .local => (params.args.map (·.arg)).contains y.1
        | _ => true) && (is.all (fun i => decide (i < N.length)) && (decide (d.np = (params.args.map (·.arg)).length) && (decide (d.nf = is.length) && (decide (d.ns = M.length) && chkE T0 M ef scope d.body body)))))))))))))
  | _, _, _ => false
theorem defaults_plain {params : Arguments} (h : isPlainArgs params = true) (env : Env) : defaultsOf params env = ([], []) := by
  obtain ⟨po, as, va, ko, kd, kw, df⟩ := params
  unfold isPlainArgs at h
  split at h
  · rename_i a e
    cases e
    rfl
  · cases h
theorem mem_lookup_free {l : List (Str × NameKind)} {x : Str} (h : l.lookup x = some .free) : (x, NameKind.free) ∈ l := PySem.mem_of_lookup h
theorem lam_ok {T0 : Tb} {LL : List LamR} {LN : List (List Str)} {sc : Scope} {N : List Str} {l : Nat} {is : List Nat} {e : Expr} {G : GS} (hlok : ∀ l li d, LL[l]? = some d → LamOk T0 li d → G.lok l li) (h : lamChk T0 LL LN sc N l is e = true) : LcOk G sc N l is e := by
  unfold lamChk at h
  split at h
  · rename_i d M params body scope pos hd hM
    simp only [Bool.and_eq_true, decide_eq_true_eq, Bool.not_eq_true', Bool.or_eq_true, List.all_eq_true] at h
    obtain ⟨hp, hnd, hk, hco, hge, hMn, hpre, hps, hfv, hall, his, hnp, hnf, hns, hb⟩ := h
    have len : (is.map fun i => N.getD i "").length = is.length := List.length_map _
    refine ⟨params, body, scope, pos, is.map fun i => N.getD i "", rfl, defaults_plain hp, fun qual => hlok l _ d hd ⟨params.args.map (·.arg), M, ⟨hk, hco, hge, hMn, ?_, hps, fun x hx => (hfv x hx).1, fun y hy e => ?_, fun y hy e => ?_, fun y hy e => ?_⟩, hnp, by rw [len]; exact hnf, hns, hb, ?_⟩, fun x => ⟨fun hx => ?_, fun hx => mem_lookup_free (hfv x hx).1⟩, len.symm, fun k i x e1 e2 => ?_, fun x hx => (hfv x hx).2⟩
    · refine ⟨M.drop ((params.args.map (·.arg)).length + is.length), ?_⟩
      rw [← List.append_assoc, ← hpre, List.take_append_drop]
    · have := hall y hy
      rw [e] at this
      exact List.contains_iff_mem.mp this
    · have := hall y hy
      rw [e] at this
      cases this
    · have := hall y hy
      rw [e] at this
      exact List.contains_iff_mem.mp this
    · intro us cells pm cdv ct hl
      exact bind_plain hp rfl rfl hnd hl
    · have := hall _ hx
      exact List.contains_iff_mem.mp this
    · rw [List.getElem?_map, e1] at e2
      have hi := his i (List.mem_of_getElem? e1)
      simp only [Option.map_some, Option.some.injEq] at e2
      rw [← e2, List.getD_eq_getElem?_getD, List.getElem?_eq_getElem hi]
      rfl
  · cases h
/-! ### a law's data -/
structure Dat where
  defs : List DD
  cls : List CD
  names : List (Str × Nat)
  blt : List Str
  pats : List (Nat × List Nat × List Str)
  Pg : List DefR
  LL : List LamR
  LN : List (List Str)
  kds : List (Str × List Str)
theorem ixL_mem {α : Type} : ∀ {l : List α} {n i : Nat} {a : α}, (i, a) ∈ ixL n l → n ≤ i ∧ l[i - n]? = some a
  | [], _, _, _, h => by cases h
  | b :: l, n, i, a, h => by
    rcases List.mem_cons.mp h with e | e
    · cases e; exact ⟨Nat.le_refl _, by simp⟩
    · obtain ⟨h1, h2⟩ := ixL_mem e
      refine ⟨by omega, ?_⟩
      rw [show i - n = (i - (n + 1)) + 1 by omega]
      simpa using h2
def Dat.clsT (D : Dat) : List (Str × Nat × Str) := (ixL 0 D.cls).map fun p => (p.2.x, p.1, p.2.fl)
/-- is it such a def that makes all lists of a thing longer? -/
def isSplD (j : Nat) : DefR → Bool
  | ⟨1, 2, [false, false], [.if_ (.isty [.list, .tuple] (.var 0)) [.for_ (.one 1) (.seq (.var 0)) [.expr (.call j' [.var 1] [])]] [], .if_ (.isty [.list] (.var 0)) [.app (.var 0) (.cst (.str [108, 97, 116, 101]))] []], none⟩ => decide (j' = j)
  | _ => false
theorem isSplD_ok {j : Nat} {d : DefR} (h : isSplD j d = true) : d = splN j := by
  unfold isSplD at h
  split at h
  · rw [of_decide_eq_true h]
    rfl
  · cases h
def Dat.spl (D : Dat) : List Nat := (ixL 0 (D.Pg.zip D.defs)).filterMap fun p => if isSplD p.1 p.2.1 then some p.1 else none
def Dat.T0 (D : Dat) : Tb := ⟨D.names, D.clsT, D.blt, D.pats, D.defs.map DD.ps, fun _ _ _ _ _ => false, D.spl, D.kds⟩
/-- the module's dicts, where they lie and by what keys -/
def Dat.tb (D : Dat) : List He.Tab := D.kds.map fun p => (fun K => He.ga K p.1, p.2)
def Dat.T (D : Dat) : Tb := { D.T0 with lc := lamChk D.T0 D.LL D.LN }
def Dat.fa (D : Dat) : List He.Fa := D.names.map (fun p => .glo p.1) ++ (D.blt.map .free ++ (D.cls.map (fun c => .glo c.x) ++ (D.cls.map (fun c => .noat c.x c.fl) ++ D.cls.map (fun c => .meth c.x "__init__"))))
def Dat.fn (D : Dat) : List He.DefD := D.defs.map DD.d ++ D.cls.map CD.d
def Dat.lams (D : Dat) : List DD := D.defs.filter (·.lam)
def Dat.tf (D : Dat) : List He.Defn := D.lams.map fun d => (d.at_, none)
def Dat.tabs (D : Dat) (K : PySem.W.Frag) : List (Addr × Str) := D.lams.map fun d => ((He.cT K (d.at_, none)).2, tabN d)
theorem oexB_ok {K : PySem.W.Frag} {C : Addr} (h : oexB K C = true) : OexC K C := by
  unfold oexB at h
  simp only [Bool.and_eq_true, decide_eq_true_eq] at h
  obtain ⟨q, h1, h2, h3, h4⟩ := h
  refine ⟨?_, h1, h2, h3, h4⟩
  split at q
  · rename_i dd cd sl ho
    split at q
    · rename_i C' bm k0 k1 k2 k3 n k5 hm hs
      simp only [Bool.and_eq_true, beq_iff_eq, Bool.not_eq_true'] at q
      obtain ⟨⟨⟨⟨rfl, rfl⟩, hdel⟩, hdct⟩, ht⟩ := q
      obtain ⟨nm, bs, mro, ns, qn, hd, sn, sub, ab, col, del⟩ := cd
      dsimp only at hm hdel hdct
      subst hm hdel hdct
      have hsl : sl = #[k0, k1, k2, k3, some (.builtin "ValueError.__new__"), k5] := by
        obtain ⟨l⟩ := sl
        simp only at hs
        rw [hs]
      subst hsl
      exact ⟨nm, qn, ns, bs, bm, sn, sub, ab, col, dd, k0, k1, k2, k3, k5, ho, ht⟩
    · cases q
  · cases q
def Dat.ex (D : Dat) (K : PySem.W.Frag) : Bool := D.names.all (fun p => match D.defs[p.2]? with
    | some d => decide (He.ga K p.1 = He.ga K d.at_)
    | none => false) && (D.cls.all (fun c => oexB K (He.ga K c.x) && xfB K (He.ga K c.x)) &&
  ((ixL 0 D.cls).all (fun a => (ixL 0 D.cls).all fun b => decide (PySem.W.exmOne K (.ref (He.ga K a.2.x)) (.ref (He.ga K b.2.x)) = some (decide (a.1 = b.1)))) &&
  ((D.tabs K).all (fun p => (D.tabs K).all fun q => !decide (q.1 = p.1) || decide (q.2 = p.2)) && D.kds.all fun p => He.Fa.ok K (.glo p.1))))
def bodyChk (T : Tb) (N : List Str) (sc : Scope) (r : DefR) (sts : List Stmt) : Bool := match r.fin with
  | none => all2 (chkS T N sf sc) r.body sts
  | some m => match sts.getLast? with
    | some (.Return (some e) _) => all2 (chkS T N sf sc) r.body sts.dropLast && chkE T N ef sc m e
    | _ => false
theorem bodyChk_ok {T : Tb} {N : List Str} {sc : Scope} {r : DefR} {sts : List Stmt} (h : bodyChk T N sc r sts = true) : BodyOk T N sc r sts := by
  unfold bodyChk at h
  split at h
  · rename_i e
    exact .inl ⟨e, h⟩
  · rename_i m e
    split at h
    · rename_i x pos hl
      rw [Bool.and_eq_true] at h
      refine .inr ⟨m, sts.dropLast, x, pos, e, ?_, h.1, h.2⟩
      have ne : sts ≠ [] := fun z => by rw [z] at hl; cases hl
      have := List.dropLast_concat_getLast ne
      rw [List.getLast?_eq_getLast ne] at hl
      rw [Option.some.inj hl] at this
      exact this.symm
    · cases h
def Dat.chk1 (D : Dat) (d : DD) (r : DefR) : Bool := isPlainArgs (C8.fnArgs d.st) && (decide d.ps.Nodup && (C8.scC d.N d.ps (C8.fnScope d.st) && (decide (r.np = d.ps.length) && (decide (r.ns = d.N.length) && (clOk (C8.fnScope d.st) r.cl d.N && bodyChk (if d.lam then D.T else D.T0) d.N (C8.fnScope d.st) r (C8.fnBody d.st))))))
def Dat.chkC (D : Dat) : Bool := D.cls.all (fun c => isPlainArgs (C8.fnArgs c.init) && (decide ((C8.fnArgs c.init).args.map (·.arg) = ([("self" : Str), c.fl] : List Str)) && initOk c.fl c.init))
def Dat.G (D : Dat) (K : PySem.W.Frag) (tok : Nat → W := fun _ => .non) : GS where
  K := K
  fa := fun j => match D.defs[j]? with
    | some d => He.fAd K (d.at_, none)
    | none => 0
  fd := fun j => match D.defs[j]? with
    | some d => (match K.lookup (He.fAd K (d.at_, none)) with
      | some ⟨_, _, .func fd, _⟩ => fd
      | _ => PySem.W.fnOf "" "" ⟨[], [], none, [], [], none, []⟩ [] ⟨.function, [], false, false, []⟩ .none .none .none .none none .none .none)
    | none => PySem.W.fnOf "" "" ⟨[], [], none, [], [], none, []⟩ [] ⟨.function, [], false, false, []⟩ .none .none .none .none none .none .none
  ca := fun c => match D.cls[c]? with
    | some d => He.ga K d.x
    | none => 0
  cf := fun c => (D.cls[c]?).map (·.fl)
  spl := fun j => ∃ d r, D.defs[j]? = some d ∧ D.Pg[j]? = some r ∧ isSplD j r = true
  lok := fun l li => ∃ d, D.LL[l]? = some d ∧ LamOk D.T0 li d
  fok := fun j => ∃ d, D.defs[j]? = some d
  cok := fun c => ∃ d, D.cls[c]? = some d
  tabs := D.tabs K
  tok := tok
theorem lookup_mem' {α : Type} {l : List (Str × α)} {x : Str} {a : α} (h : l.lookup x = some a) : (x, a) ∈ l := PySem.mem_of_lookup h
section
variable {D : Dat} {K : PySem.W.Frag} {h : Heap} {mg : Str → Option Value} {w : World} {P : Program} {base : Heap} {tok : Nat → W}
/-- a def's object -/
theorem def_at (c : He.SaysD D.fa D.fn K) {j : Nat} {d : DD} (hd : D.defs[j]? = some d) (hc : isPlainArgs (C8.fnArgs d.st) = true) (nd : d.ps.Nodup) : C8.Fun K d.name d.name d.st ((D.G K tok).fa j) ((D.G K tok).fd j) ∧ PySem.W.keepIn K (.ref ((D.G K tok).fa j)) = true ∧
    (∀ us : List Value, us.length = d.ps.length → bindArgs ((D.G K tok).fd j) ⟨us, []⟩ = pure (d.ps.zip us)) := by
  have mem : d.d ∈ D.fn := List.mem_append_left _ (List.mem_map.mpr ⟨d, List.mem_of_getElem? hd, rfl⟩)
  obtain ⟨fd, F⟩ := c.defs mem
  have efa : (D.G K tok).fa j = He.fAd K (d.at_, none) := by simp only [Dat.G, hd]
  obtain ⟨oc, od, dV, kV, doc, pm, an, cdv, ct, osl, e1, lk, hcd, hD, hK⟩ := F.ex
  have lk : K.lookup (He.fAd K (d.at_, none)) = some ⟨oc, od, .func fd, osl⟩ := lk
  have efd : (D.G K tok).fd j = fd := by
    simp only [Dat.G, hd, lk]
  have edV : dV = .none := by
    rcases hD with ⟨_, z⟩ | ⟨z, _⟩
    · exact z
    · exact absurd rfl z
  subst edV
  refine ⟨⟨oc, od, .none, kV, doc, pm, an, cdv, ct, osl, by rw [efd]; exact e1, by rw [efa, efd]; exact lk, hcd⟩, by rw [efa]; exact F.kp, fun us hl => ?_⟩
  rw [efd, e1]
  exact bind_plain (fd := PySem.W.fnOf d.name d.name (C8.fnArgs d.st) (C8.fnBody d.st) (C8.fnScope d.st) .none kV doc pm an cdv ct) hc rfl rfl nd hl
theorem ps_at {j : Nat} {d : DD} (hd : D.defs[j]? = some d) : D.T.ps.getD j [] = d.ps := by
  show (D.defs.map DD.ps).getD j [] = _
  rw [List.getD_eq_getElem?_getD, List.getElem?_map, hd]
  rfl
theorem meth_fn {x m : Str} (c : (He.Fa.meth x m).ok K = true) : PySem.W.findIn K (.ref (He.ga K x)) m = some (some (.ref (He.ma K (He.ga K x) m))) ∧ PySem.W.typeIn K (.ref (He.ma K (He.ga K x) m)) = some (.type "function") := by
  have q := He.meth_ok c
  obtain ⟨c1, c2⟩ := He.ba c
  obtain ⟨c3, c4⟩ := He.ba c2
  exact ⟨He.eqO_ok c1, beq_iff_eq.mp c3⟩
theorem pg_of (X : K.In base) (NG : base.Ns mainGlobals mg) (c : He.SaysD D.fa D.fn K) (more : D.ex K = true) (st : all2 D.chk1 D.defs D.Pg = true) (sc : D.chkC = true) (TB : ∀ d ∈ D.lams, LamX.TabB base mg (He.cT K (d.at_, none)).1 (He.cT K (d.at_, none)).2)
    (kd : ∀ p ∈ D.kds, He.dicW K (He.ga K p.1) = some (He.keysIn w.params p.2)) (pats : ∀ p ∈ D.pats, KwOk K ((D.G K).fd p.1) (D.T.ps.getD p.1 []) p.2.2 p.2.1) : PgOk P w (D.G K tok) D.T D.Pg D.LL K mg base := by
  have fact : ∀ {f : He.Fa}, f ∈ D.fa → f.ok K = true := fun hf => c.facts hf
  unfold Dat.ex at more
  simp only [Bool.and_eq_true, List.all_eq_true] at more
  obtain ⟨m1, m2, m3, m4, m5⟩ := more
  have clsAt : ∀ {x : Str} {i : Nat} {fl : Str}, D.T.cls.lookup x = some (i, fl) → ∃ cd, D.cls[i]? = some cd ∧ cd.x = x ∧ cd.fl = fl ∧ cd ∈ D.cls := fun {x i fl} e => by
    have := lookup_mem' e
    obtain ⟨⟨i', cd⟩, hm, he⟩ := List.mem_map.mp this
    obtain ⟨_, h2⟩ := ixL_mem hm
    cases he
    exact ⟨cd, by simpa using h2, rfl, rfl, List.mem_of_getElem? (by simpa using h2)⟩
  have chk : ∀ {j : Nat} {d : DD} {r : DefR}, D.defs[j]? = some d → D.Pg[j]? = some r → D.chk1 d r = true := by
    have go : ∀ {ds : List DD} {rs : List DefR} {j : Nat} {d : DD} {r : DefR}, all2 D.chk1 ds rs = true → ds[j]? = some d → rs[j]? = some r → D.chk1 d r = true := by
      intro ds
      induction ds with
      | nil => intro rs j d r _ e; simp at e
      | cons a ds ih =>
        intro rs j d r h e1 e2
        cases rs with
        | nil => simp at e2
        | cons b rs =>
          simp only [all2, Bool.and_eq_true] at h
          cases j with
          | zero => simp at e1 e2; subst e1 e2; exact h.1
          | succ j => exact ih h.2 (by simpa using e1) (by simpa using e2)
    exact fun {j d r} e1 e2 => go st e1 e2
  have len : D.defs.length = D.Pg.length := by
    have go : ∀ {ds : List DD} {rs : List DefR}, all2 D.chk1 ds rs = true → ds.length = rs.length := by
      intro ds
      induction ds with
      | nil => intro rs h; cases rs with
        | nil => rfl
        | cons => cases h
      | cons a ds ih =>
        intro rs h
        cases rs with
        | nil => cases h
        | cons b rs =>
          simp only [all2, Bool.and_eq_true] at h
          simp [ih h.2]
    exact go st
  have defAt : ∀ {j : Nat} {d : DD}, D.defs[j]? = some d → ∃ r, D.Pg[j]? = some r ∧ D.chk1 d r = true := fun {j d} e => by
    have hj := (List.getElem?_eq_some_iff.mp e).1
    have er : D.Pg[j]? = some (D.Pg[j]'(by omega)) := List.getElem?_eq_getElem _
    exact ⟨_, er, chk e er⟩
  refine ⟨fun x i fl e => ?_, fun i hi y i' fl ok => ?_, rfl, fun j r hj => ?_, fun x hx => ?_, fun x j e => ?_, fun j ⟨d, hd⟩ => ?_, pats, fun sc N l is e hl => ?_, fun l li ⟨d, h1, h2⟩ => ⟨d, h1, h2⟩, fun j hj => ?_, fun p hp => kd_of (He.glo_ok X NG (m5 p hp)) (kd p hp), fun j ⟨d, r, e1, e2, e3⟩ => ⟨⟨d, e1⟩, by rw [e2, isSplD_ok e3]⟩⟩
  · obtain ⟨cd, hcd, rfl, rfl, hm⟩ := clsAt e
    have eca : (D.G K tok).ca i = He.ga K cd.x := by simp only [Dat.G, hcd]
    have f1 := fact (f := .glo cd.x) (by unfold Dat.fa; simp only [List.mem_append, List.mem_map]; exact .inr (.inr (.inl ⟨cd, hm, rfl⟩)))
    have f2 := fact (f := .noat cd.x cd.fl) (by unfold Dat.fa; simp only [List.mem_append, List.mem_map]; exact .inr (.inr (.inr (.inl ⟨cd, hm, rfl⟩))))
    have f3 := fact (f := .meth cd.x "__init__") (by unfold Dat.fa; simp only [List.mem_append, List.mem_map]; exact .inr (.inr (.inr (.inr ⟨cd, hm, rfl⟩))))
    have q2 := m2 cd hm
    have cc := List.all_eq_true.mp sc cd hm
    simp only [Bool.and_eq_true, decide_eq_true_eq] at cc
    obtain ⟨p1, p2, p3⟩ := cc
    have mem : cd.d ∈ D.fn := List.mem_append_right _ (List.mem_map.mpr ⟨cd, hm, rfl⟩)
    obtain ⟨fd, F⟩ := c.defs mem
    obtain ⟨oc, od, dV, kV, doc, pm, an, cdv, ct, osl, e1, lk, hc2, hD, hK⟩ := F.ex
    have edV : dV = .none := by
      rcases hD with ⟨_, z⟩ | ⟨z, _⟩
      · exact z
      · exact absurd rfl z
    subst edV
    obtain ⟨g1, g2⟩ := meth_fn f3
    refine ⟨by rw [eca]; exact He.glo_ok X NG f1, ⟨cd, hcd⟩, by simp only [Dat.G, hcd]; rfl, by rw [eca]; exact oexB_ok q2.1, by rw [eca]; exact xfB_ok q2.2, by rw [eca]; exact He.noat_ok f2, He.ma K (He.ga K cd.x) "__init__", fd, by rw [eca]; exact g1, g2, init_ok (qual := cd.x ++ ".__init__") (st := cd.init) ⟨oc, od, .none, kV, doc, pm, an, cdv, ct, osl, e1, lk, hc2⟩ p3, ?_⟩
    have nds : ([("self" : Str), cd.fl] : List Str).Nodup := by
      have := (by unfold initOk at p3; simp only [Bool.and_eq_true, decide_eq_true_eq] at p3; exact p3.1 : cd.fl ≠ ("self" : Str))
      simpa using fun z => this z.symm
    refine Binds.all fun us hl => ?_
    rw [e1]
    exact bind_plain (fd := PySem.W.fnOf "__init__" (cd.x ++ ".__init__") (C8.fnArgs cd.init) (C8.fnBody cd.init) (C8.fnScope cd.init) .none kV doc pm an cdv ct) p1 rfl p2 nds hl
  · obtain ⟨ca, hca⟩ := hi
    obtain ⟨cb, hcb⟩ := ok.cok
    have mk : ∀ {l : List CD} {n k : Nat} {a : CD}, l[k]? = some a → (n + k, a) ∈ ixL n l := by
      intro l
      induction l with
      | nil => intro n k a e; simp at e
      | cons b l ih =>
        intro n k a e
        cases k with
        | zero => simp at e; subst e; exact List.mem_cons_self
        | succ k =>
          have := ih (n := n + 1) (k := k) (a := a) (by simpa using e)
          rw [show n + (k + 1) = n + 1 + k by omega]
          exact List.mem_cons_of_mem _ this
    have z := m3 _ (mk (n := 0) hca) _ (mk (n := 0) hcb)
    have z := of_decide_eq_true z
    have e1 : (D.G K tok).ca i = He.ga K ca.x := by simp only [Dat.G, hca]
    have e2 : (D.G K tok).ca i' = He.ga K cb.x := by simp only [Dat.G, hcb]
    rw [e1, e2, z]
    simp
  · have hj2 : j < D.defs.length := by rw [len]; exact (List.getElem?_eq_some_iff.mp hj).1
    have hd : D.defs[j]? = some D.defs[j] := List.getElem?_eq_getElem hj2
    generalize D.defs[j] = d at hd
    have ck := chk hd hj
    unfold Dat.chk1 at ck
    simp only [Bool.and_eq_true, decide_eq_true_eq] at ck
    obtain ⟨c1, c2, c3, c4, c5, c6, c7⟩ := ck
    obtain ⟨F, _, _⟩ := def_at c hd c1 c2
    have eps := ps_at (D := D) hd
    refine ⟨d.name, d.name, d.st, d.N, if d.lam then D.T else D.T0, F, by rw [eps]; exact c3, by rw [eps]; exact c4, c5, c6, ?_, bodyChk_ok c7⟩
    cases hl : d.lam with
    | false => exact .inl (by simp; rfl)
    | true =>
      refine .inr ⟨by simp, ?_⟩
      have hm : d ∈ D.lams := List.mem_filter.mpr ⟨List.mem_of_getElem? hd, hl⟩
      obtain ⟨oc, od, dV, kV, doc, pm, an, cdv, ct, osl, e1, lk, hcd⟩ := F.ex
      obtain ⟨cc, ecc⟩ := He.codeIn_ref hcd
      have efa : (D.G K tok).fa j = He.fAd K (d.at_, none) := by simp only [Dat.G, hd]
      have ecode : ((D.G K tok).fd j).code = .ref cc := by rw [e1]; exact ecc
      have eco : He.codeOf K (d.at_, none) = cc := He.codeOf_eq (by rw [← efa]; exact lk) ecode
      refine ⟨(He.cT K (d.at_, none)).1, (He.cT K (d.at_, none)).2, by rw [ecode]; show _ = Value.ref (He.codeOf K (d.at_, none)); rw [eco], TB d hm, List.mem_map.mpr ⟨d, hm, rfl⟩, fun p hp ep => ?_⟩
      have z := m4 _ (List.mem_map.mpr ⟨d, hm, rfl⟩) p hp
      simp only [Bool.or_eq_true, Bool.not_eq_true', decide_eq_false_iff_not, decide_eq_true_eq] at z
      rcases z with z | z
      · exact absurd ep z
      · exact z
  · exact He.free_ok X NG (fact (f := .free x) (by unfold Dat.fa; simp only [List.mem_append, List.mem_map]; exact .inr (.inl ⟨x, List.contains_iff_mem.mp hx, rfl⟩)))
  · have hm := lookup_mem' (show D.names.lookup x = some j from e)
    have f1 := fact (f := .glo x) (by unfold Dat.fa; simp only [List.mem_append, List.mem_map]; exact .inl ⟨(x, j), hm, rfl⟩)
    have z := m1 _ hm
    split at z
    · rename_i d hd
      have z := of_decide_eq_true z
      have efa : (D.G K tok).fa j = He.fAd K (d.at_, none) := by
        have hd : D.defs[j]? = some d := hd
        simp only [Dat.G, hd]
      refine ⟨?_, d, hd⟩
      rw [efa]
      show _ = some (Value.ref (He.ga K d.at_))
      rw [← z]
      exact He.glo_ok X NG f1
    · cases z
  · obtain ⟨r, _, ck⟩ := defAt hd
    unfold Dat.chk1 at ck
    simp only [Bool.and_eq_true, decide_eq_true_eq] at ck
    obtain ⟨_, kp, hb⟩ := def_at c hd ck.1 ck.2.1
    rw [ps_at (D := D) hd]
    exact ⟨kp, Binds.all hb⟩
  · exact lam_ok (G := D.G K tok) (T0 := D.T0) (LL := D.LL) (LN := D.LN) (fun l li d h1 h2 => ⟨d, h1, h2⟩) hl
  · have hm : j ∈ D.spl := List.contains_iff_mem.mp hj
    obtain ⟨⟨j', r, d⟩, h1, h2⟩ := List.mem_filterMap.mp hm
    dsimp only at h2
    split at h2
    · rename_i hs
      cases h2
      obtain ⟨_, h3⟩ := ixL_mem h1
      have h3 : (D.Pg.zip D.defs)[j]? = some (r, d) := by simpa using h3
      rw [List.getElem?_zip_eq_some] at h3
      exact ⟨d, r, h3.2, h3.1, hs⟩
    · cases h2
theorem tb_of (c : He.SaysT D.fa D.fn D.tb w K) : ∀ p ∈ D.kds, He.dicW K (He.ga K p.1) = some (He.keysIn w.params p.2) := by
  have e : (D.tb.map fun t => He.dicW K (t.1 K)) = D.tb.map fun t => some (He.keysIn w.params t.2) := congrArg (fun z : He.AlT => z.2) c
  unfold Dat.tb at e
  rw [List.map_map, List.map_map] at e
  exact fun p hp => List.map_inj_left.mp e p hp
/-- what the end asks -/
theorem law_at {l : PySem.W.OpenLaw} {fa : Addr} {n lj : Nat} {dl : DD} (X : K.In h) (NG : h.Ns mainGlobals mg) (c : He.SaysX D.fa D.fn D.tb D.tf D.ex w h K) (st : all2 D.chk1 D.defs D.Pg = true) (sc : D.chkC = true)
    (pats : ∀ K, He.SaysD D.fa D.fn K → ∀ p ∈ D.pats, KwOk K ((D.G K).fd p.1) (D.T.ps.getD p.1 []) p.2.2 p.2.1) (hj : D.defs[lj]? = some dl) (hps : dl.ps = ([("script" : Str)] : List Str)) (hn : D.names.lookup ("law" : Str) = some lj) (hmg : mg ("law" : Str) = some (.ref fa))
    (tells : ∀ ns : List Int, ns.length ≤ 63 → (∀ z ∈ ns, Builtin.Int.intBits z ≤ 1048576) → Tells D.Pg D.LL n lj ns) : LamX.LawAtS l w K (L2.CX l.prog w) (n + 2) 63 "script" mg fa h := by
  have ctab : ∀ p ∈ D.tf.map (He.cT K), ∃ q ∈ D.tf, He.cT K q = p := fun p hp => List.mem_map.mp hp
  have cd := c.t.d
  have pg : ∀ base : Heap, K.In base → base.Ns mainGlobals mg → (∀ p ∈ D.tf.map (He.cT K), LamX.TabB base mg p.1 p.2) → PgOk l.prog w (D.G K) D.T D.Pg D.LL K mg base := fun base Xb NGb TB =>
    pg_of Xb NGb cd c.more st sc (fun d hd => TB _ (List.mem_map.mpr ⟨(d.at_, none), List.mem_map.mpr ⟨d, hd, rfl⟩, rfl⟩)) (tb_of c.t) (pats K cd)
  have ck : ∃ r, D.chk1 dl r = true := by
    have go : ∀ {ds : List DD} {rs : List DefR} {j : Nat} {d : DD}, all2 D.chk1 ds rs = true → ds[j]? = some d → ∃ r, D.chk1 d r = true := by
      intro ds
      induction ds with
      | nil => intro rs j d _ e; simp at e
      | cons a ds ih =>
        intro rs j d h e1
        cases rs with
        | nil => cases h
        | cons b rs =>
          simp only [all2, Bool.and_eq_true] at h
          cases j with
          | zero => simp at e1; subst e1; exact ⟨b, h.1⟩
          | succ j => exact ih h.2 (by simpa using e1)
    exact go st hj
  obtain ⟨r, ck⟩ := ck
  unfold Dat.chk1 at ck
  simp only [Bool.and_eq_true, decide_eq_true_eq] at ck
  obtain ⟨F, kp, hb⟩ := def_at cd hj ck.1 ck.2.1
  have efa : fa = (D.G K).fa lj := by
    have hm := lookup_mem' hn
    have f1 := cd.facts (f := .glo "law") (by unfold Dat.fa; simp only [List.mem_append, List.mem_map]; exact .inl ⟨(("law" : Str), lj), hm, rfl⟩)
    have z := He.glo_ok X NG f1
    rw [hmg] at z
    have more := c.more
    unfold Dat.ex at more
    simp only [Bool.and_eq_true, List.all_eq_true] at more
    have y := more.1 _ hm
    dsimp only at y
    rw [hj] at y
    have y := of_decide_eq_true y
    have e2 : (D.G K).fa lj = He.ga K dl.at_ := by simp only [Dat.G, hj]; rfl
    rw [e2, ← y]
    cases z
    rfl
  subst efa
  refine ⟨(D.G K).fd lj, D.tf.map (He.cT K), SpF (D.G K) (callD D.Pg D.LL n) (.fn lj), fun p hp => ?_, fun p hp => ?_, fun p hp => ?_, fun s u => ?_, fun H a ns h1 h2 h3 h4 => ?_, fun base Xb NGb TB => ?_⟩
  · obtain ⟨q, hq, rfl⟩ := ctab p hp
    exact c.empty q hq
  · obtain ⟨q, hq, rfl⟩ := ctab p hp
    exact c.out q hq
  · obtain ⟨q, hq, rfl⟩ := ctab p hp
    exact PySem.W.codeHd_of_K X (c.hd q hq)
  · have := hb [u] (by rw [hps]; rfl)
    rw [hps] at this
    exact .of_eq this
  · refine sp_law (fun p hp => ?_) rfl h4 (tells ns h1 h2)
    obtain ⟨d, hd, rfl⟩ := List.mem_map.mp (show p ∈ D.tabs K from hp)
    exact LamX.TabS.nil (h3 _ (List.mem_map.mpr ⟨(d.at_, none), List.mem_map.mpr ⟨d, hd, rfl⟩, rfl⟩))
  · have z := (lv (pg base Xb NGb TB) n).1 lj
    rw [ps_at (D := D) hj, hps] at z
    exact z
end
end Mini
namespace Mini
open PySem L2
/-- the first row in a class -/
theorem kw_at {D : Dat} {K : PySem.W.Frag} {j : Nat} {d : DD} {pk : List Nat} {ks : List Str} (c : He.SaysD D.fa D.fn K) (hd : D.defs[j]? = some d) (hc : isPlainArgs (C8.fnArgs d.st) = true)
    (h : ∀ (kV doc pm : Value) (an : Option Addr) (cdv ct : Value) (ws : List Value), (pk.filterMap fun i => ws[i]?).length = d.ps.length → bindArgs (PySem.W.fnOf d.name d.name (C8.fnArgs d.st) (C8.fnBody d.st) (C8.fnScope d.st) .none kV doc pm an cdv ct) ⟨[], ks.zip ws⟩ = pure (d.ps.zip (pk.filterMap fun i => ws[i]?))) :
    KwOk K ((D.G K).fd j) (D.T.ps.getD j []) ks pk := by
  have mem : d.d ∈ D.fn := List.mem_append_left _ (List.mem_map.mpr ⟨d, List.mem_of_getElem? hd, rfl⟩)
  obtain ⟨fd, F⟩ := c.defs mem
  obtain ⟨oc, od, dV, kV, doc, pm, an, cdv, ct, osl, e1, lk, hcd, hD, hK⟩ := F.ex
  have lk : K.lookup (He.fAd K (d.at_, none)) = some ⟨oc, od, .func fd, osl⟩ := lk
  have efd : (D.G K).fd j = fd := by
    simp only [Dat.G, hd, lk]
  have edV : dV = .none := by
    rcases hD with ⟨_, z⟩ | ⟨z, _⟩
    · exact z
    · exact absurd rfl z
  subst edV
  intro s ws _ hl
  rw [ps_at (D := D) hd] at hl ⊢
  rw [efd, e1]
  exact .of_eq (h kV doc pm an cdv ct ws hl)
theorem cx_no {P : Program} {w : World} {o : List Env} {H : Hp} {s s' : Shared} {e : Value} (z : L2.CX P w o H s (fun _ _ _ => False) e s') : False := by
  obtain ⟨_, _, _, _, _, _, _, _, _, _, _, _, hE⟩ := z
  exact hE
def isT (r : R O) : Bool := match r with
  | .ok (.sh (.bl true)) _ _ => true
  | _ => false
theorem tells_ok {Pg : List DefR} {LL : List LamR} {n j : Nat} {ns : List Int} (h : isT (callD Pg LL n (.fn j) [.sh (.ks (ns.map .int))] []) = true) : Tells Pg LL n j ns := by
  constructor
  revert h
  generalize callD Pg LL n (.fn j) [.sh (.ks (ns.map .int))] [] = r
  intro h
  unfold isT at h
  split at h
  · exact ⟨_, rfl, rfl⟩
  · cases h
end Mini
set_option Elab.async false
set_option linter.all false
set_option maxRecDepth 100000
set_option maxHeartbeats 1000000
/-! Mini: answers known beforehand, over marks. -/
namespace Mini
open PySem L2
/-- a mark read as what it stands for -/
def rsv (tok : Nat → W) : O → O
  | .sh (.opq i) => .sh (tok i)
  | o => o
def okAns (tok : Nat → W) : O → Prop
  | .sh (.opq i) => partsN (tok i) = some (i % 64) ∧ belowW 0 (tok i) = true
  | _ => True
/-- each answer is what the def tells -/
def OrcOk (tok : Nat → W) (orc : Nat → List O → Option O) (n0 : Nat) (Pg : List DefR) (LL : List LamR) : Prop :=
  ∀ n f os o, orc f os = some o → okAns tok o ∧ ∀ h, ∃ s', callD Pg LL (n0 + n + 1) (.fn f) (os.map (rsv tok)) h = .ok (rsv tok o) s' h
section
variable {G : GS} {F : Fz} {r : List Addr} {H : Hp} {tok : Nat → W} {orc : Nat → List O → Option O} {pl : Nat → Bool} {n0 : Nat} {Pg : List DefR} {LL : List LamR}
theorem ro_rsv (e : ∀ i, G.tok i = tok i) {o : O} {v : V} {L : List Addr} (q : RO G F r H o v L) : RO G F r H (rsv tok o) v L := by
  unfold rsv
  split
  · rename_i i
    cases q with
    | sh q =>
      cases q with
      | opq q _ =>
        rw [e] at q
        exact .sh q
  · exact q
theorem ros_rsv (e : ∀ i, G.tok i = tok i) : ∀ {os : List O} {vs : List V} {L : List Addr}, ROs G F r H os vs L → ROs G F r H (os.map (rsv tok)) vs L
  | _, _, _, .nil => .nil
  | _, _, _, .cons a b => .cons (ro_rsv e a) (ros_rsv e b)
theorem ro_back (e : ∀ i, G.tok i = tok i) {o : O} {v : V} {L : List Addr} (ok : okAns tok o) (q : RO G F r H (rsv tok o) v L) : RO G F r H o v L := by
  unfold rsv at q
  unfold okAns at ok
  split at q
  · rename_i i
    cases q with
    | sh q =>
      have ok : partsN (tok i) = some (i % 64) ∧ belowW 0 (tok i) = true := ok
      obtain ⟨a, rfl⟩ := opOk_ref (G := ⟨G, []⟩) q ok.1
      rw [← e] at q ok
      exact .sh (.opq q ok)
  · exact q
theorem fnOk_or {P : Program} {w : World} {K : PySem.W.Frag} {mg : Str → Option Value} {base : Heap} {CX : CXT} {k : Nat} {f : Addr} {fd : FuncData} {ps : List Str} {s1 s2 : Sp} (a : FnOk P w K mg base CX k f fd ps s1) (b : FnOk P w K mg base CX k f fd ps s2) :
    FnOk P w K mg base CX k f fd ps fun vs H Q E => s1 vs H Q E ∨ s2 vs H Q E :=
  ⟨fun vs H Q E q => q.elim (a.len vs H Q E) (b.len vs H Q E), fun A outer s H args us vs Q E hr he hb hv q => q.elim (a.run A outer s H args us vs Q E hr he hb hv) (b.run A outer s H args us vs Q E hr he hb hv)⟩
theorem sealO_ok (e : ∀ i, G.tok i = tok i) (t : Nat) (os : List O) (h : HH) : sealO tok t os h = .fail ∨ ∃ o i, os = [o] ∧ sealO tok t os h = .ok (.sh (.opq i)) [] h ∧ o.toW = G.tok i ∧ partsN o.toW = some (i % 64) ∧ belowW 0 o.toW = true := by
  unfold sealO
  split
  · rename_i o
    cases hp : partsN o.toW with
    | none => exact .inl rfl
    | some n =>
      dsimp only
      by_cases c : (decide (n < 64) && (same o.toW (tok (t * 64 + n)) && belowW 0 (tok (t * 64 + n)))) = true
      · rw [if_pos c]
        rw [Bool.and_eq_true, Bool.and_eq_true, decide_eq_true_eq] at c
        have eo := same_eq c.2.1
        exact .inr ⟨o, _, rfl, rfl, by rw [e]; exact eo, by rw [hp]; congr 1; omega, by rw [eo]; exact c.2.2⟩
      · rw [if_neg c]
        exact .inl rfl
  · exact .inl rfl
theorem seal_O (e : ∀ i, G.tok i = tok i) : ∀ n, SealOk G (callO tok orc pl n0 Pg LL n)
  | 0 => seal_D n0
  | n + 1 => fun t os h => sealO_ok e t os h
/-- a call without the answers -/
def callN (c1 : CF) (Pg : List DefR) : CF := fun c os h => match c with
  | .fn f => match Pg[f]? with
    | some d => runD c1 d os h
    | none => .fail
  | _ => .fail
theorem lvO {P : Program} {w : World} {K : PySem.W.Frag} {mg : Str → Option Value} {base : Heap} {T : Tb} (e : ∀ i, G.tok i = tok i) (ok : OrcOk tok orc n0 Pg LL) (pg : PgOk P w G T Pg LL K mg base) :
    ∀ n, (∀ j, FnOk P w K mg base (L2.CX P w) (n0 + n + 2) (G.fa j) (G.fd j) (T.ps.getD j []) (SpF G (callO tok orc pl n0 Pg LL n) (.fn j))) ∧ ClOk P w K mg base G (callO tok orc pl n0 Pg LL n) (n0 + n + 2)
  | 0 => lv pg n0
  | n + 1 => by
    obtain ⟨h1, h2⟩ := lvO e ok pg n
    refine ⟨fun j => ?_, clo_step pg h1 h2 (seal_O e n) fun l d cs os h hl => ?_, spl_step (m := n0 + n) (by omega) pg h1 h2 (seal_O e n) (fun j o h => by cases n <;> first | rfl | (cases n0 <;> rfl)) fun j o h => rfl⟩
    · have a : FnOk P w K mg base (L2.CX P w) (n0 + (n + 1) + 2) (G.fa j) (G.fd j) (T.ps.getD j []) (SpF G (callD Pg LL (n0 + n + 1)) (.fn j)) := (lv pg (n0 + n + 1)).1 j
      have b : FnOk P w K mg base (L2.CX P w) (n0 + (n + 1) + 2) (G.fa j) (G.fd j) (T.ps.getD j []) (SpF G (callN (callO tok orc pl n0 Pg LL n) Pg) (.fn j)) := by
        cases hj : Pg[j]? with
        | none => exact fn_bot fun os h => (by
            show (match Pg[j]? with
              | some d => runD (callO tok orc pl n0 Pg LL n) d os h
              | none => .fail) = _
            rw [hj])
        | some d => exact fn_step (by omega) pg h1 h2 (seal_O e n) hj fun os h => (by
            show (match Pg[j]? with
              | some d => runD (callO tok orc pl n0 Pg LL n) d os h
              | none => .fail) = _
            rw [hj])
      refine (fnOk_or a b).imp ?_
      rintro vs H Q E ⟨F, r, h, os, L, R, q, wi, out⟩
      have out2 : Out (match orc j os with
        | some o => .ok o [] h
        | none => if pl j then callD Pg LL (n0 + n + 1) (.fn j) os h else (match Pg[j]? with
          | some d => runD (callO tok orc pl n0 Pg LL n) d os h
          | none => .fail)) _ _ := out
      cases ho : orc j os with
      | none =>
        rw [ho] at out2
        by_cases hpl : pl j = true
        · rw [if_pos hpl] at out2
          exact .inl ⟨F, r, h, os, L, R, q, wi, out2⟩
        · rw [if_neg hpl] at out2
          exact .inr ⟨F, r, h, os, L, R, q, wi, out2⟩
      | some o =>
        rw [ho] at out2
        obtain ⟨ka, hc⟩ := ok n j os o ho
        obtain ⟨s', hs⟩ := hc h
        refine .inl ⟨F, r, h, _, L, R, ros_rsv e q, wi, ?_⟩
        rw [hs]
        intro F' r' H' v M l kp ro w'
        exact out2 F' r' H' v M l kp (ro_back e ka ro) w'
    · show (match LL[l]? with
        | some d => runL (callO tok orc pl n0 Pg LL n) d cs os h
        | none => .fail) = _
      rw [hl]
end
/-- a Mini law holds of a script, some answers known beforehand -/
structure TellsO (Pg : List DefR) (LL : List LamR) (n0 n j : Nat) (ns : List Int) : Prop where
  ex : ∃ tok orc pl, OrcOk tok orc n0 Pg LL ∧ TellsC (callO tok orc pl n0 Pg LL n) j ns
section
variable {D : Dat} {K : PySem.W.Frag} {h : Heap} {mg : Str → Option Value} {w : World} {P : Program} {base : Heap}
/-- what the end asks, with answers known beforehand -/
theorem law_atO {l : PySem.W.OpenLaw} {fa : Addr} {n0 n lj : Nat} {dl : DD} (X : K.In h) (NG : h.Ns mainGlobals mg) (c : He.SaysX D.fa D.fn D.tb D.tf D.ex w h K) (st : all2 D.chk1 D.defs D.Pg = true) (sc : D.chkC = true)
    (pats : ∀ K, He.SaysD D.fa D.fn K → ∀ p ∈ D.pats, KwOk K ((D.G K).fd p.1) (D.T.ps.getD p.1 []) p.2.2 p.2.1) (hj : D.defs[lj]? = some dl) (hps : dl.ps = ([("script" : Str)] : List Str)) (hn : D.names.lookup ("law" : Str) = some lj) (hmg : mg ("law" : Str) = some (.ref fa))
    (tells : ∀ ns : List Int, ns.length ≤ 63 → (∀ z ∈ ns, Builtin.Int.intBits z ≤ 1048576) → TellsO D.Pg D.LL n0 n lj ns) : LamX.LawAtS l w K (L2.CX l.prog w) (n0 + n + 2) 63 "script" mg fa h := by
  have ctab : ∀ p ∈ D.tf.map (He.cT K), ∃ q ∈ D.tf, He.cT K q = p := fun p hp => List.mem_map.mp hp
  have cd := c.t.d
  have pg : ∀ (tok : Nat → W) (base : Heap), K.In base → base.Ns mainGlobals mg → (∀ p ∈ D.tf.map (He.cT K), LamX.TabB base mg p.1 p.2) → PgOk l.prog w (D.G K tok) D.T D.Pg D.LL K mg base := fun tok base Xb NGb TB =>
    pg_of Xb NGb cd c.more st sc (fun d hd => TB _ (List.mem_map.mpr ⟨(d.at_, none), List.mem_map.mpr ⟨d, hd, rfl⟩, rfl⟩)) (tb_of c.t) (pats K cd)
  have ck : ∃ r, D.chk1 dl r = true := by
    have go : ∀ {ds : List DD} {rs : List DefR} {j : Nat} {d : DD}, all2 D.chk1 ds rs = true → ds[j]? = some d → ∃ r, D.chk1 d r = true := by
      intro ds
      induction ds with
      | nil => intro rs j d _ e; simp at e
      | cons a ds ih =>
        intro rs j d h e1
        cases rs with
        | nil => cases h
        | cons b rs =>
          simp only [all2, Bool.and_eq_true] at h
          cases j with
          | zero => simp at e1; subst e1; exact ⟨b, h.1⟩
          | succ j => exact ih h.2 (by simpa using e1)
    exact go st hj
  obtain ⟨r, ck⟩ := ck
  unfold Dat.chk1 at ck
  simp only [Bool.and_eq_true, decide_eq_true_eq] at ck
  obtain ⟨F, kp, hb⟩ := def_at cd hj ck.1 ck.2.1
  have efa : fa = (D.G K).fa lj := by
    have hm := lookup_mem' hn
    have f1 := cd.facts (f := .glo "law") (by unfold Dat.fa; simp only [List.mem_append, List.mem_map]; exact .inl ⟨(("law" : Str), lj), hm, rfl⟩)
    have z := He.glo_ok X NG f1
    rw [hmg] at z
    have more := c.more
    unfold Dat.ex at more
    simp only [Bool.and_eq_true, List.all_eq_true] at more
    have y := more.1 _ hm
    dsimp only at y
    rw [hj] at y
    have y := of_decide_eq_true y
    have e2 : (D.G K).fa lj = He.ga K dl.at_ := by simp only [Dat.G, hj]; rfl
    rw [e2, ← y]
    cases z
    rfl
  subst efa
  refine ⟨(D.G K).fd lj, D.tf.map (He.cT K), fun vs H Q E => ∃ tok orc pl, OrcOk tok orc n0 D.Pg D.LL ∧ SpF (D.G K tok) (callO tok orc pl n0 D.Pg D.LL n) (.fn lj) vs H Q E, fun p hp => ?_, fun p hp => ?_, fun p hp => ?_, fun s u => ?_, fun H a ns h1 h2 h3 h4 => ?_, fun base Xb NGb TB => ?_⟩
  · obtain ⟨q, hq, rfl⟩ := ctab p hp
    exact c.empty q hq
  · obtain ⟨q, hq, rfl⟩ := ctab p hp
    exact c.out q hq
  · obtain ⟨q, hq, rfl⟩ := ctab p hp
    exact PySem.W.codeHd_of_K X (c.hd q hq)
  · have := hb [u] (by rw [hps]; rfl)
    rw [hps] at this
    exact .of_eq this
  · obtain ⟨tok, orc, pl, ok, t⟩ := (tells ns h1 h2).ex
    refine ⟨tok, orc, pl, ok, sp_lawC (G := D.G K tok) (fun p hp => ?_) rfl h4 t⟩
    obtain ⟨d, hd, rfl⟩ := List.mem_map.mp (show p ∈ D.tabs K from hp)
    exact LamX.TabS.nil (h3 _ (List.mem_map.mpr ⟨(d.at_, none), List.mem_map.mpr ⟨d, hd, rfl⟩, rfl⟩))
  · have z : ∀ tok orc pl, OrcOk tok orc n0 D.Pg D.LL → FnOk l.prog w K mg base (L2.CX l.prog w) (n0 + n + 2) ((D.G K).fa lj) ((D.G K).fd lj) ["script"] (SpF (D.G K tok) (callO tok orc pl n0 D.Pg D.LL n) (.fn lj)) := fun tok orc pl ok => by
      have z := (lvO (G := D.G K tok) (tok := tok) (pl := pl) (fun _ => rfl) ok (pg tok base Xb NGb TB) n).1 lj
      rw [ps_at (D := D) hj, hps] at z
      exact z
    exact ⟨fun vs H Q E ⟨tok, orc, pl, ok, q⟩ => (z tok orc pl ok).len vs H Q E q, fun A outer s H args us vs Q E hr he hb hv ⟨tok, orc, pl, ok, q⟩ => (z tok orc pl ok).run A outer s H args us vs Q E hr he hb hv q⟩
end
end Mini
set_option Elab.async false
set_option linter.all false
set_option maxRecDepth 100000
set_option maxHeartbeats 1000000
/-! Mini: the script's numbers drawn. -/
namespace Mini
/-- the law's stream lies at i, its numbers at j -/
def hs (h : HH) (i j : Nat) (ns st : List W) : HH := (h.set j (.lst ns)).set i (.lst st)
structure Two (h : HH) (i j : Nat) : Prop where
  hi : i < h.length
  hj : j < h.length
  ne : i ≠ j
section
variable {h : HH} {i j : Nat}
theorem hs_i (T : Two h i j) (ns st : List W) : (hs h i j ns st)[i]? = some (.lst st) := by
  unfold hs
  rw [List.getElem?_set_self (by rw [List.length_set]; exact T.hi)]
theorem hs_j (T : Two h i j) (ns st : List W) : (hs h i j ns st)[j]? = some (.lst ns) := by
  unfold hs
  rw [List.getElem?_set_ne T.ne, List.getElem?_set_self T.hj]
theorem hs_si (ns st st' : List W) : (hs h i j ns st).set i (.lst st') = hs h i j ns st' := by
  unfold hs
  rw [List.set_set]
theorem hs_sj (T : Two h i j) (ns ns' st : List W) : (hs h i j ns st).set j (.lst ns') = hs h i j ns' st := by
  unfold hs
  rw [List.set_comm _ _ T.ne, List.set_set]
def intsW (ns : List Int) : List W := ns.map .int
theorem flat_ints : ∀ ns : List Int, flatDs 59 (intsW ns) = true
  | [] => rfl
  | n :: ns => (by
    show (if flatD 59 (.int n) then flatDs 59 (intsW ns) else false) = true
    exact flat_ints ns)
def dTest : ME := .and_ [.cmp .eq (.idx (.var 0) (.cst (.int 1))) (.cst (.int 0)), .cmp .ne (.idx (.var 0) (.cst (.int 0))) (.lst [])]
def dBody : List MS := [.set 3 (.bi .abs [.popi (.idx (.var 0) (.cst (.int 0))) (.cst (.int 0))]), .stI (.var 0) (.cst (.int 3)) (.bin .mod (.bi .int [.bin .add (.bin .add (.bin .mul (.idx (.var 0) (.cst (.int 3))) (.cst (.int 8191))) (.var 3)) (.cst (.int 3))]) (.cst (.int 2147483647))), .stI (.var 0) (.cst (.int 1)) (.ite (.cmp .ge (.var 3) (.bin .pow (.cst (.int 10)) (.cst (.int 18)))) (.mv 3) (.cst (.int 0)))]
variable {cf : CF} {ce : List (Option Nat)} {a b d m : Option O}
theorem test_eq (T : Two h i j) (ns : List Int) (c t x : Int) (s : SL) (hs0 : s[0]? = some (some (.sh (.hp i)))) : evT cf ce ef dTest s (hs h i j (intsW ns) [.hp j, .int c, .int t, .int x]) = .ok (decide (c = 0) && !ns.isEmpty) s (hs h i j (intsW ns) [.hp j, .int c, .int t, .int x]) := by
  unfold dTest ef
  simp [evT, allT, ev2, evD, pkS, hs0, evE, Dl.get, vw, hs_i T, hs_j T, getW, idxW, atW, ixN, R.bind, ofO, O.toW, cmpD, cmpW, eqC, neC, flatD, eqW, evL]
  rw [show O.toWs [] = [] from rfl, flat_ints]
  by_cases hc : c = 0
  · subst hc
    cases ns <;> simp [intsW, eqWs, flatDs]
  · simp [hc]
theorem big_ok {x : Int} (h0 : 0 ≤ x) (h1 : x < 18446744073709551616) : big64 x = true := by
  unfold big64
  simp only [Bool.and_eq_true, decide_eq_true_eq]
  omega
theorem body_eq (T : Two h i j) (z : Int) (ns : List Int) (t x : Int) (hx : 0 ≤ x ∧ x < 2147483647) :
    ∃ q o, (∀ (cf : CF) (ce : List (Option Nat)), exL (exS cf ce (sf - 1)) dBody [some (.sh (.hp i)), m, a, b, d] (hs h i j (intsW (z :: ns)) [.hp j, .int 0, .int t, .int x]) =
      .ok .next [some (.sh (.hp i)), m, a, o, d] (hs h i j (intsW ns) [.hp j, .int q, .int t, .int ((x * 8191 + (if z < 0 then -z else z) + 3) % 2147483647)])) ∧ 0 ≤ q := by
  have ba : (0 : Int) ≤ (if z < 0 then -z else z) := by split <;> omega
  generalize hz : (if z < 0 then -z else z) = az at ba
  refine ⟨if 1000000000000000000 ≤ az then az else 0, if 1000000000000000000 ≤ az then none else some (.sh (.int az)), fun cf ce => ?_, by split <;> omega⟩
  have hb : big64 x = true := big_ok hx.1 (by omega)
  unfold dBody sf
  simp [ef, exL, exS, intsW, evT, evPl, evP, isLp, ev1, popP, rgOk, ixN, evDs, getDs, biW, absF, hz, ev2, evD, pkS, evE, Dl.get, vw, hs_i T, hs_j T, hs_si, hs_sj T, getW, idxW, atW, R.bind, ofO, O.toW, stP1, binW, mulW, addW, modW, intF, hb, evL, cmpD, cmpW, geC, powW, big64]
  by_cases hc : 1000000000000000000 ≤ az <;> simp [hc, hs_i T, hs_si, O.toW]
/-- the loop: numbers are read till one is large -/
theorem loop_eq (T : Two h i j) : ∀ (ns : List Int) (k : Nat) (c t x : Int) (o : Option O), ns.length < k → 0 ≤ c → 0 ≤ x ∧ x < 2147483647 →
    ∃ ns' c' x' o', (∀ (cf : CF) (ce : List (Option Nat)), whileL (evT cf ce ef dTest) (exL (exS cf ce (sf - 1)) dBody) k [some (.sh (.hp i)), m, a, o, d] (hs h i j (intsW ns) [.hp j, .int c, .int t, .int x]) =
      .ok .next [some (.sh (.hp i)), m, a, o', d] (hs h i j (intsW ns') [.hp j, .int c', .int t, .int x'])) ∧ 0 ≤ c' ∧ (0 ≤ x' ∧ x' < 2147483647) ∧ ns'.length ≤ ns.length := by
  intro ns
  induction ns with
  | nil =>
    intro k c t x o hk h0 hx
    obtain ⟨k, rfl⟩ : ∃ k', k = k' + 1 := ⟨k - 1, by simp at hk; omega⟩
    refine ⟨[], c, x, o, fun cf ce => ?_, h0, hx, Nat.le_refl _⟩
    unfold whileL
    rw [test_eq T [] c t x _ rfl]
    simp [R.bind]
  | cons z ns ih =>
    intro k c t x o hk h0 hx
    obtain ⟨k, rfl⟩ : ∃ k', k = k' + 1 := ⟨k - 1, by simp at hk; omega⟩
    by_cases hc : c = 0
    · subst hc
      obtain ⟨q, o1, e1, hq⟩ := body_eq (m := m) (a := a) (b := o) (d := d) T z ns t x hx
      obtain ⟨ns', c', x', o', e2, r1, r2, r3⟩ := ih k q t ((x * 8191 + (if z < 0 then -z else z) + 3) % 2147483647) o1 (by simp at hk; omega) hq ⟨Int.emod_nonneg _ (by decide), Int.emod_lt_of_pos _ (by decide)⟩
      refine ⟨ns', c', x', o', fun cf ce => ?_, r1, r2, by simp; omega⟩
      unfold whileL
      rw [test_eq T (z :: ns) 0 t x _ rfl]
      simp only [decide_true, List.isEmpty_cons, Bool.not_false, Bool.and_self, R.bind, if_true]
      rw [e1 cf ce]
      exact e2 cf ce
    · refine ⟨z :: ns, c, x, o, fun cf ce => ?_, h0, hx, Nat.le_refl _⟩
      unfold whileL
      rw [test_eq T (z :: ns) c t x _ rfl]
      simp [R.bind, hc]
def dDraw : DefR := ⟨2, 5, [false, false, false, false, false], [.stI (.var 0) (.cst (.int 2)) (.bin .add (.idx (.var 0) (.cst (.int 2))) (.cst (.int 1))), .while_ wh dTest dBody, .if_ (.cmp .gt (.idx (.var 0) (.cst (.int 1))) (.cst (.int 0))) [.set 4 (.bin .mod (.bi .int [.idx (.var 0) (.cst (.int 1))]) (.var 1)), .stI (.var 0) (.cst (.int 1)) (.bin .fdiv (.idx (.var 0) (.cst (.int 1))) (.mv 1)), .ret (.mv 4)] [], .set 2 (.bin .mod (.bi .int [.bin .pow (.bin .add (.bin .add (.idx (.var 0) (.cst (.int 3))) (.bin .mul (.cst (.int 7919)) (.idx (.var 0) (.cst (.int 2))))) (.cst (.int 104729))) (.cst (.int 5))]) (.cst (.int 2147483629))), .ret (.bin .mod (.bin .mod (.bi .int [.bin .pow (.bin .add (.bin .add (.bin .mul (.mv 2) (.cst (.int 48271))) (.bin .mul (.cst (.int 30011)) (.idx (.mv 0) (.cst (.int 2))))) (.cst (.int 29))) (.cst (.int 3))]) (.cst (.int 1000000007))) (.mv 1))], none⟩
theorem exL_next {f : MS → SL → HH → R Fl} {m : MS} {ms : List MS} {s s1 : SL} {h h1 : HH} (e : f m s h = .ok .next s1 h1) : exL f (m :: ms) s h = exL f ms s1 h1 := by
  show (f m s h).bind _ = _
  rw [e]
  rfl
theorem exL_ret {f : MS → SL → HH → R Fl} {m : MS} {ms : List MS} {s s1 : SL} {h h1 : HH} {o : O} (e : f m s h = .ok (.ret o) s1 h1) : exL f (m :: ms) s h = .ok (.ret o) s1 h1 := by
  show (f m s h).bind _ = _
  rw [e]
  rfl
theorem dr1 (T : Two h i j) (ns : List Int) (c t x : Int) (k : O) : exS cf ce sf (.stI (.var 0) (.cst (.int 2)) (.bin .add (.idx (.var 0) (.cst (.int 2))) (.cst (.int 1)))) [some (.sh (.hp i)), some k, none, none, none] (hs h i j (intsW ns) [.hp j, .int c, .int t, .int x]) =
    .ok .next [some (.sh (.hp i)), some k, none, none, none] (hs h i j (intsW ns) [.hp j, .int c, .int (t + 1), .int x]) := by
  simp [sf, ef, exS, evT, evP, ev1, ev2, evD, pkS, evE, Dl.get, vw, hs_i T, hs_j T, hs_si, hs_sj T, getW, idxW, atW, ixN, R.bind, ofO, O.toW, stP1, binW, addW]
def dIf : MS := .if_ (.cmp .gt (.idx (.var 0) (.cst (.int 1))) (.cst (.int 0))) [.set 4 (.bin .mod (.bi .int [.idx (.var 0) (.cst (.int 1))]) (.var 1)), .stI (.var 0) (.cst (.int 1)) (.bin .fdiv (.idx (.var 0) (.cst (.int 1))) (.mv 1)), .ret (.mv 4)] []
theorem dr3 (T : Two h i j) (ns : List Int) (c t x k : Int) (o : Option O) (hc : 0 < c) (hk : 0 < k ∧ k < 1073741824) : exS cf ce sf dIf [some (.sh (.hp i)), some (.sh (.int k)), none, o, none] (hs h i j (intsW ns) [.hp j, .int c, .int t, .int x]) =
    .ok (.ret (.sh (.int (c % k)))) [some (.sh (.hp i)), none, none, o, none] (hs h i j (intsW ns) [.hp j, .int (c / k), .int t, .int x]) := by
  simp [dIf, sf, ef, exL, exS, evT, evP, ev1, ev2, evD, pkS, evE, Dl.get, vw, hs_i T, hs_j T, hs_si, hs_sj T, getW, idxW, atW, ixN, R.bind, ofO, O.toW, stP1, binW, modW, fdivW, evDs, getDs, biW, intF, cmpD, cmpW, gtC, hc, hk]
theorem dr3' (T : Two h i j) (ns : List Int) (c t x k : Int) (o : Option O) (hc : ¬ 0 < c) : exS cf ce sf dIf [some (.sh (.hp i)), some (.sh (.int k)), none, o, none] (hs h i j (intsW ns) [.hp j, .int c, .int t, .int x]) =
    .ok .next [some (.sh (.hp i)), some (.sh (.int k)), none, o, none] (hs h i j (intsW ns) [.hp j, .int c, .int t, .int x]) := by
  simp [dIf, sf, ef, exL, exS, evT, evP, ev1, ev2, evD, pkS, evE, Dl.get, vw, hs_i T, hs_j T, hs_si, hs_sj T, getW, idxW, atW, ixN, R.bind, ofO, O.toW, stP1, binW, cmpD, cmpW, gtC, hc]
def dE1 : ME := .bin .mod (.bi .int [.bin .pow (.bin .add (.bin .add (.idx (.var 0) (.cst (.int 3))) (.bin .mul (.cst (.int 7919)) (.idx (.var 0) (.cst (.int 2))))) (.cst (.int 104729))) (.cst (.int 5))]) (.cst (.int 2147483629))
theorem dr4 (T : Two h i j) (ns : List Int) (c t x : Int) (k : O) (o : Option O) (ht : 0 ≤ t ∧ t ≤ 1000000000) (hx : 0 ≤ x ∧ x < 2147483647) : ∃ y, (∀ (cf : CF) (ce : List (Option Nat)), exS cf ce sf (.set 2 dE1) [some (.sh (.hp i)), some k, none, o, none] (hs h i j (intsW ns) [.hp j, .int c, .int t, .int x]) =
    .ok .next [some (.sh (.hp i)), some k, some (.sh (.int y)), o, none] (hs h i j (intsW ns) [.hp j, .int c, .int t, .int x])) ∧ 0 ≤ y ∧ y < 2147483629 := by
  have b1 : big64 (x + 7919 * t + 104729) = true := big_ok (by omega) (by omega)
  have b2 : big64 7919 = true := by decide
  refine ⟨((x + 7919 * t + 104729) ^ 5) % 2147483629, fun cf ce => ?_, Int.emod_nonneg _ (by decide), Int.emod_lt_of_pos _ (by decide)⟩
  simp [dE1, sf, ef, exS, ev1, ev2, evD, pkS, evE, Dl.get, vw, hs_i T, hs_j T, getW, idxW, atW, ixN, R.bind, ofO, O.toW, binW, modW, addW, mulW, powW, evDs, getDs, biW, intF, b1, b2]
def dE2 : ME := .bin .mod (.bin .mod (.bi .int [.bin .pow (.bin .add (.bin .add (.bin .mul (.mv 2) (.cst (.int 48271))) (.bin .mul (.cst (.int 30011)) (.idx (.mv 0) (.cst (.int 2))))) (.cst (.int 29))) (.cst (.int 3))]) (.cst (.int 1000000007))) (.mv 1)
theorem dr5 (T : Two h i j) (ns : List Int) (c t x k y : Int) (o : Option O) (ht : 0 ≤ t ∧ t ≤ 1000000000) (hy : 0 ≤ y ∧ y < 2147483629) (hk : 0 < k) : ∃ n s', (∀ (cf : CF) (ce : List (Option Nat)), exS cf ce sf (.ret dE2) [some (.sh (.hp i)), some (.sh (.int k)), some (.sh (.int y)), o, none] (hs h i j (intsW ns) [.hp j, .int c, .int t, .int x]) =
    .ok (.ret (.sh (.int n))) s' (hs h i j (intsW ns) [.hp j, .int c, .int t, .int x])) ∧ 0 ≤ n ∧ n < k := by
  have b1 : big64 (y * 48271 + 30011 * t + 29) = true := big_ok (by omega) (by omega)
  have b2 : big64 48271 = true := by decide
  have b3 : big64 30011 = true := by decide
  refine ⟨((y * 48271 + 30011 * t + 29) ^ 3) % 1000000007 % k, [none, none, none, o, none], fun cf ce => ?_, Int.emod_nonneg _ (by omega), Int.emod_lt_of_pos _ hk⟩
  simp [dE2, sf, ef, exS, ev1, ev2, evD, pkS, evE, Dl.get, vw, hs_i T, hs_j T, getW, idxW, atW, ixN, R.bind, ofO, O.toW, binW, modW, addW, mulW, powW, evDs, getDs, biW, intF, b1, b2, b3, hk]
/-- a draw: a number below many; the stream goes on -/
theorem draw_eq (T : Two h i j) (ns : List Int) (c t x k : Int) (h0 : 0 ≤ c) (ht : 0 ≤ t ∧ t < 1000000000) (hx : 0 ≤ x ∧ x < 2147483647) (hk : 0 < k ∧ k < 1073741824) (hl : ns.length ≤ 63) :
    ∃ n ns' c' x', (∀ cf : CF, runD cf dDraw [.sh (.hp i), .sh (.int k)] (hs h i j (intsW ns) [.hp j, .int c, .int t, .int x]) = .ok (.sh (.int n)) [] (hs h i j (intsW ns') [.hp j, .int c', .int (t + 1), .int x'])) ∧
      (0 ≤ n ∧ n < k) ∧ 0 ≤ c' ∧ (0 ≤ x' ∧ x' < 2147483647) ∧ ns'.length ≤ 63 := by
  obtain ⟨ns', c', x', o', e, hc, hx', hn⟩ := loop_eq (m := some (.sh (.int k))) (a := none) (d := none) T ns wh c (t + 1) x none (by unfold wh; omega) h0 hx
  have key : ∀ {cf : CF} {o s1 h1}, exL (exS cf (mkCe [false, false, false, false, false] (hs h i j (intsW ns) [.hp j, .int c, .int t, .int x]).length) sf) dDraw.body [some (.sh (.hp i)), some (.sh (.int k)), none, none, none] (hs h i j (intsW ns) [.hp j, .int c, .int t, .int x]) = .ok (.ret o) s1 h1 →
      runD cf dDraw [.sh (.hp i), .sh (.int k)] (hs h i j (intsW ns) [.hp j, .int c, .int t, .int x]) = .ok o [] h1 := by
    intro cf o s1 h1 e
    have e2 : hs h i j (intsW ns) [.hp j, .int c, .int t, .int x] ++ List.replicate (dDraw.cl.count true) (HObj.cell none) = hs h i j (intsW ns) [.hp j, .int c, .int t, .int x] := List.append_nil _
    show (match exL (exS cf (mkCe dDraw.cl (hs h i j (intsW ns) [.hp j, .int c, .int t, .int x]).length) sf) dDraw.body [some (.sh (.hp i)), some (.sh (.int k)), none, none, none] (hs h i j (intsW ns) [.hp j, .int c, .int t, .int x] ++ List.replicate (dDraw.cl.count true) (HObj.cell none)) with
      | .ok (.ret o) s h' => R.ok o [] h'
      | .ok .next s h' => .ok (.sh .non) [] h'
      | .exc c ws _ h' => .exc c ws [] h'
      | _ => .fail) = _
    rw [e2]
    have e3 : exL (exS cf (mkCe dDraw.cl (hs h i j (intsW ns) [.hp j, .int c, .int t, .int x]).length) sf) dDraw.body [some (.sh (.hp i)), some (.sh (.int k)), none, none, none] (hs h i j (intsW ns) [.hp j, .int c, .int t, .int x]) = .ok (.ret o) s1 h1 := e
    rw [e3]
  have s12 : ∀ (cf : CF) ms, exL (exS cf (mkCe [false, false, false, false, false] (hs h i j (intsW ns) [.hp j, .int c, .int t, .int x]).length) sf) (.stI (.var 0) (.cst (.int 2)) (.bin .add (.idx (.var 0) (.cst (.int 2))) (.cst (.int 1))) :: .while_ wh dTest dBody :: ms) [some (.sh (.hp i)), some (.sh (.int k)), none, none, none] (hs h i j (intsW ns) [.hp j, .int c, .int t, .int x]) =
      exL (exS cf (mkCe [false, false, false, false, false] (hs h i j (intsW ns) [.hp j, .int c, .int t, .int x]).length) sf) ms [some (.sh (.hp i)), some (.sh (.int k)), none, o', none] (hs h i j (intsW ns') [.hp j, .int c', .int (t + 1), .int x']) := fun cf ms =>
    (exL_next (dr1 T ns c t x _)).trans (exL_next (e cf _))
  by_cases hp : 0 < c'
  · refine ⟨c' % k, ns', c' / k, x', fun cf => key (s1 := _) ((s12 cf _).trans (exL_ret (dr3 T ns' c' (t + 1) x' k o' hp hk))), ⟨Int.emod_nonneg _ (by omega), Int.emod_lt_of_pos _ hk.1⟩, Int.ediv_nonneg hc (by omega), hx', by omega⟩
  · obtain ⟨y, e4, hy⟩ := dr4 T ns' c' (t + 1) x' (.sh (.int k)) o' (by omega) hx'
    obtain ⟨n, s', e5, hn2⟩ := dr5 T ns' c' (t + 1) x' k y o' (by omega) hy hk.1
    exact ⟨n, ns', c', x', fun cf => key ((s12 cf _).trans ((exL_next (dr3' T ns' c' (t + 1) x' k o' hp)).trans ((exL_next (e4 cf _)).trans (exL_ret (e5 cf _))))), hn2, hc, hx', by omega⟩
end
end Mini
set_option Elab.async false
set_option linter.all false
set_option maxRecDepth 100000
set_option maxHeartbeats 1000000
/-! Mini: things mixed by draws. -/
namespace Mini
section
variable {h : HH} {i j : Nat} {cf : CF}
theorem shs_map : ∀ ws : List W, shs? (ws.map .sh) = some ws
  | [] => rfl
  | w :: ws => by
    rw [List.map_cons]
    unfold shs?
    rw [shs_map ws]
theorem toWs_map : ∀ ws : List W, O.toWs (ws.map .sh) = ws
  | [] => rfl
  | w :: ws => by
    rw [List.map_cons]
    show O.toW (.sh w) :: O.toWs (ws.map .sh) = _
    rw [toWs_map ws]
    rfl
/-- what a draw does: cf's word -/
def DrawOk (C : CF → Prop) (jd : Nat) : Prop := ∀ {h : HH} {i j : Nat}, Two h i j → ∀ (ns : List Int) (c t x k : Int), 0 ≤ c → 0 ≤ t ∧ t < 1000000000 → 0 ≤ x ∧ x < 2147483647 → 0 < k ∧ k < 1073741824 → ns.length ≤ 63 →
    ∃ n ns' c' x' s', (∀ cf, C cf → cf (.fn jd) [.sh (.hp i), .sh (.int k)] (hs h i j (intsW ns) [.hp j, .int c, .int t, .int x]) = .ok (.sh (.int n)) s' (hs h i j (intsW ns') [.hp j, .int c', .int (t + 1), .int x'])) ∧
      (0 ≤ n ∧ n < k) ∧ 0 ≤ c' ∧ (0 ≤ x' ∧ x' < 2147483647) ∧ ns'.length ≤ 63
def no5 : List (Option Nat) := [none, none, none, none, none]
def mBody (jd : Nat) : List MS := [.app (.var 4) (.popi (.var 3) (.call jd [.var 0, .bi .len [.var 3]] []))]
theorem ca_eq {jd : Nat} {h1 h2 : HH} {n : Int} {s' s : SL} {ls : List W} {f : Nat} (e : cf (.fn jd) [.sh (.hp i), .sh (.int ls.length)] h1 = .ok (.sh (.int n)) s' h2) (h0 : s[0]? = some (some (.sh (.hp i)))) (h3 : s[3]? = some (some (.lst (ls.map .sh)))) (hs5 : pubC 0 no5 s h1 = some ([], s, h1)) :
    evE cf no5 (f + 3) (.call jd [.var 0, .bi .len [.var 3]] []) s h1 = .ok (.sh (.int n)) s h2 := by
  have ea : evE cf no5 (f + 2) (.var 0) s h1 = .ok (.sh (.hp i)) s h1 := by
    simp only [evE, rdS, h0]
  have eb : evE cf no5 (f + 2) (.bi .len [.var 3]) s h1 = .ok (.sh (.int ls.length)) s h1 := by
    simp only [evE, evDs, evD, pkS, h3, shs_map, R.bind, getDs, Dl.get, vw, biW, lenF, ofO]
  have el : evL (evE cf no5 (f + 2)) [.var 0, .bi .len [.var 3]] s h1 = .ok [.sh (.hp i), .sh (.int ls.length)] s h1 := by
    simp only [evL, ea, eb, R.bind]
  show (evL (evE cf no5 (f + 2)) [.var 0, .bi .len [.var 3]] s h1).bind _ = _
  rw [el]
  show callC cf no5 (.fn jd) [.sh (.hp i), .sh (.int ls.length)] s h1 = _
  unfold callC
  rw [hs5]
  simp only [e, unpC]
theorem ev1_call {f : ME → SL → HH → R O} {jd : Nat} {es : List ME} {kw : List Nat} {s s1 : SL} {h h1 : HH} {k : Int} (e : f (.call jd es kw) s h = .ok (.sh (.int k)) s1 h1) : ev1 f (.call jd es kw) s h = .ok (.int k) s1 h1 := by
  show ((f (.call jd es kw) s h).bind fun o s h => R.ok (Dl.now o.toW) s h).bind (fun d s h => ofO (d.get s h) s h) = _
  rw [e]
  rfl
theorem popi_eq {ce : List (Option Nat)} {n : Nat} {o i : ME} {s s1 s2 : SL} {h h1 h2 : HH} {p : Pl} {k : Int} (e1 : evPl (evE cf ce n) o s h = .ok p s1 h1) (e2 : ev1 (evE cf ce n) i s1 h1 = .ok (.int k) s2 h2) (e3 : rgOk k = true) : evE cf ce (n + 1) (.popi o i) s h = popP p k s2 h2 := by
  show (evPl (evE cf ce n) o s h).bind _ = _
  rw [e1]
  show (ev1 (evE cf ce n) i s1 h1).bind _ = _
  rw [e2]
  show (if rgOk k then popP p k s2 h2 else .fail) = _
  rw [if_pos e3]
theorem app_eq {ce : List (Option Nat)} {n : Nat} {o i : ME} {s s1 s2 s3 : SL} {h h1 h2 h3 : HH} {p : Pl} {v : O} (e1 : evPl (evE cf ce ef) o s h = .ok p s1 h1) (e2 : evE cf ce ef i s1 h1 = .ok v s2 h2) (e3 : appP p v s2 h2 = .ok () s3 h3) : exS cf ce (n + 1) (.app o i) s h = .ok .next s3 h3 := by
  show (evPl (evE cf ce ef) o s h).bind _ = _
  rw [e1]
  show (evE cf ce ef i s1 h1).bind _ = _
  rw [e2]
  show (appP p v s2 h2).bind _ = _
  rw [e3]
  rfl
theorem erase_map {α β : Type} (f : α → β) : ∀ (l : List α) (n : Nat), (l.map f).eraseIdx n = (l.eraseIdx n).map f
  | [], _ => rfl
  | _ :: _, 0 => rfl
  | a :: l, n + 1 => congrArg (f a :: ·) (erase_map f l n)
theorem turn_eq {jd : Nat} {h1 h2 : HH} {n : Nat} {s' : SL} {ls fs : List W} {w : Option O} (e : cf (.fn jd) [.sh (.hp i), .sh (.int ls.length)] h1 = .ok (.sh (.int n)) s' h2) (hn : n < ls.length) (hf : fs.length < line) (hl : ls.length < 100000) :
    exL (exS cf no5 39) (mBody jd) [some (.sh (.hp i)), none, w, some (.lst (ls.map .sh)), some (.lst (fs.map .sh))] h1 =
      .ok .next [some (.sh (.hp i)), none, w, some (.lst ((ls.eraseIdx n).map .sh)), some (.lst ((fs ++ [ls[n]]).map .sh))] h2 := by
  have r1 : rgOk (n : Int) = true := by
    unfold rgOk
    simp only [Bool.and_eq_true, decide_eq_true_eq]
    omega
  have r3 : (n : Int) < ls.length := by omega
  have c : evE cf no5 (56 + 3) (.call jd [.var 0, .bi .len [.var 3]] []) [some (.sh (.hp i)), none, w, some (.lst (ls.map .sh)), some (.lst (fs.map .sh))] h1 = .ok (.sh (.int n)) [some (.sh (.hp i)), none, w, some (.lst (ls.map .sh)), some (.lst (fs.map .sh))] h2 := ca_eq e rfl rfl rfl
  have p : evE cf no5 60 (.popi (.var 3) (.call jd [.var 0, .bi .len [.var 3]] [])) [some (.sh (.hp i)), none, w, some (.lst (ls.map .sh)), some (.lst (fs.map .sh))] h1 = .ok (.sh ls[n]) [some (.sh (.hp i)), none, w, some (.lst ((ls.eraseIdx n).map .sh)), some (.lst (fs.map .sh))] h2 := by
    refine (popi_eq (p := .slot 3) rfl (ev1_call c) r1).trans ?_
    simp [popP, ixN, r3, hn, erase_map]
  refine (exL_next (app_eq (p := .slot 4) rfl p ?_)).trans rfl
  simp [appP, hf]
theorem get_erase {α : Type} : ∀ (l : List α) (n : Nat) (h : n < l.length), (l[n] :: l.eraseIdx n).Perm l
  | a :: l, 0, _ => .refl _
  | a :: l, n + 1, h => (List.Perm.swap a (l[n]'(by simpa using h)) (l.eraseIdx n)).trans (.cons a (get_erase l n (by simpa using h)))
/-- things are drawn one by one -/
theorem mixL {C : CF → Prop} {jd : Nat} (D : DrawOk C jd) (T : Two h i j) : ∀ (m : Nat) (vs ls fs : List W) (w : Option O) (ns : List Int) (c t x : Int), vs.length = m → ls.length = m → fs.length + m < 100000 → 0 ≤ c → 0 ≤ t ∧ t + m ≤ 1000000000 → 0 ≤ x ∧ x < 2147483647 → ns.length ≤ 63 →
    ∃ (fs' : List W) (w' : Option O) (ns' : List Int) (c' x' : Int), (∀ cf, C cf → forL (.one 2) [] (exL (exS cf no5 39) (mBody jd)) vs [some (.sh (.hp i)), none, w, some (.lst (ls.map .sh)), some (.lst (fs.map .sh))] (hs h i j (intsW ns) [.hp j, .int c, .int t, .int x]) =
      .ok .next [some (.sh (.hp i)), none, w', some (.lst []), some (.lst (fs'.map .sh))] (hs h i j (intsW ns') [.hp j, .int c', .int (t + m), .int x'])) ∧ fs'.Perm (fs ++ ls) ∧ 0 ≤ c' ∧ (0 ≤ x' ∧ x' < 2147483647) ∧ ns'.length ≤ 63 := by
  intro m
  induction m with
  | zero =>
    intro vs ls fs w ns c t x h1 h2 h3 h4 h5 h6 h7
    obtain rfl := List.eq_nil_of_length_eq_zero h1
    obtain rfl := List.eq_nil_of_length_eq_zero h2
    refine ⟨fs, w, ns, c, x, fun cf hC => ?_, by rw [List.append_nil], h4, h6, h7⟩
    show R.ok Fl.next _ _ = _
    rw [show t + ((0 : Nat) : Int) = t by simp]
    rfl
  | succ m ih =>
    intro vs ls fs w ns c t x h1 h2 h3 h4 h5 h6 h7
    match vs, h1 with
    | v :: vs, h1 =>
      obtain ⟨n, ns1, c1, x1, s', e, hn, hc1, hx1, hl1⟩ := D T ns c t x ls.length h4 (by omega) h6 (by omega) h7
      obtain ⟨n, rfl⟩ : ∃ k : Nat, n = k := ⟨n.toNat, by omega⟩
      have hn' : n < ls.length := by omega
      have e1 := fun cf (hC : C cf) => turn_eq (fs := fs) (w := some (.sh v)) (e cf hC) hn' (by unfold line; omega) (by omega)
      obtain ⟨fs', w', ns', c', x', e2, p, r⟩ := ih vs (ls.eraseIdx n) (fs ++ [ls[n]]) (some (.sh v)) ns1 c1 (t + 1) x1 (by simpa using h1) (by rw [List.length_eraseIdx_of_lt hn']; omega) (by simp; omega) hc1 (by omega) hx1 hl1
      refine ⟨fs', w', ns', c', x', fun cf hC => ?_, ?_, r⟩
      · show (match setTg [some (.sh (.hp i)), none, w, some (.lst (ls.map .sh)), some (.lst (fs.map .sh))] (.one 2) v with
          | none => R.fail
          | some s => (exL (exS cf no5 39) (mBody jd) s (hs h i j (intsW ns) [.hp j, .int c, .int t, .int x])).bind fun f s h => match f with
            | .next => forL (.one 2) [] (exL (exS cf no5 39) (mBody jd)) vs s h
            | .cont => forL (.one 2) [] (exL (exS cf no5 39) (mBody jd)) vs s h
            | .brk => .ok .next s h
            | .ret o => .ok (.ret o) s h) = _
        show ((exL (exS cf no5 39) (mBody jd) [some (.sh (.hp i)), none, some (.sh v), some (.lst (ls.map .sh)), some (.lst (fs.map .sh))] (hs h i j (intsW ns) [.hp j, .int c, .int t, .int x])).bind fun f s h => match f with
            | .next => forL (.one 2) [] (exL (exS cf no5 39) (mBody jd)) vs s h
            | .cont => forL (.one 2) [] (exL (exS cf no5 39) (mBody jd)) vs s h
            | .brk => .ok .next s h
            | .ret o => .ok (.ret o) s h) = _
        rw [e1 cf hC]
        rw [show t + ((m + 1 : Nat) : Int) = t + 1 + (m : Int) by omega]
        exact e2 cf hC
      · refine p.trans ?_
        rw [List.append_assoc]
        exact List.Perm.append_left fs (get_erase ls n hn')
def dMixed (jd : Nat) : DefR := ⟨2, 5, [false, false, false, false, false], [.par [3, 4] [.bi .list [.mv 1], .lst []], .for_ (.one 2) (.rng1 (.bi .len [.var 3])) (mBody jd), .ret (.mv 4)], none⟩
/-- a list of things, mixed -/
theorem mixed_eq {C : CF → Prop} {jd : Nat} (D : DrawOk C jd) (T : Two h i j) (os : List O) (ws : List W) (ns : List Int) (c t x : Int) (hw : O.toWs os = ws) (hm : ws.length < 100000) (h4 : 0 ≤ c) (h5 : 0 ≤ t ∧ t + ws.length ≤ 1000000000) (h6 : 0 ≤ x ∧ x < 2147483647) (h7 : ns.length ≤ 63) :
    ∃ (fs : List W) (ns' : List Int) (c' x' : Int), (∀ cf, C cf → runD cf (dMixed jd) [.sh (.hp i), .lst os] (hs h i j (intsW ns) [.hp j, .int c, .int t, .int x]) = .ok (.lst (fs.map .sh)) [] (hs h i j (intsW ns') [.hp j, .int c', .int (t + ws.length), .int x'])) ∧
      fs.Perm ws ∧ 0 ≤ c' ∧ (0 ≤ x' ∧ x' < 2147483647) ∧ ns'.length ≤ 63 := by
  obtain ⟨fs, w', ns', c', x', e, p, r⟩ := mixL D T ws.length (rangeW 0 ws.length 1) ws [] none ns c t x (by unfold rangeW turns; rw [rngW_len]; simp) rfl (by simpa using hm) h4 h5 h6 h7
  refine ⟨fs, ns', c', x', fun cf hC => ?_, by simpa using p, r⟩
  have e := e cf hC
  generalize hA : hs h i j (intsW ns) [.hp j, .int c, .int t, .int x] = A at e ⊢
  have hce : mkCe [false, false, false, false, false] A.length = no5 := rfl
  have s1 : exS cf no5 sf (.par [3, 4] [.bi .list [.mv 1], .lst []]) [some (.sh (.hp i)), some (.lst os), none, none, none] A = .ok .next [some (.sh (.hp i)), none, none, some (.lst (ws.map .sh)), some (.lst (([] : List W).map .sh))] A := by
    subst hw
    rfl
  have hr : rgOk (ws.length : Int) = true := by
    unfold rgOk
    simp only [Bool.and_eq_true, decide_eq_true_eq]
    omega
  have it : itE (evE cf no5 ef) (.rng1 (.bi .len [.var 3])) [some (.sh (.hp i)), none, none, some (.lst (ws.map .sh)), some (.lst (([] : List W).map .sh))] A = .ok ⟨rangeW 0 ws.length 1, []⟩ [some (.sh (.hp i)), none, none, some (.lst (ws.map .sh)), some (.lst (([] : List W).map .sh))] A := by
    simp [itE, ef, evE, evDs, evD, pkS, shs_map, R.bind, getDs, Dl.get, vw, biW, lenF, ofO, O.toW, hr]
  have s2 : exS cf no5 sf (.for_ (.one 2) (.rng1 (.bi .len [.var 3])) (mBody jd)) [some (.sh (.hp i)), none, none, some (.lst (ws.map .sh)), some (.lst (([] : List W).map .sh))] A = .ok .next [some (.sh (.hp i)), none, w', some (.lst []), some (.lst (fs.map .sh))] (hs h i j (intsW ns') [.hp j, .int c', .int (t + ws.length), .int x']) := by
    show (itE (evE cf no5 ef) (.rng1 (.bi .len [.var 3])) [some (.sh (.hp i)), none, none, some (.lst (ws.map .sh)), some (.lst (([] : List W).map .sh))] A).bind _ = _
    rw [it]
    exact e
  have body : exL (exS cf no5 sf) (dMixed jd).body [some (.sh (.hp i)), some (.lst os), none, none, none] A = .ok (.ret (.lst (fs.map .sh))) [some (.sh (.hp i)), none, w', some (.lst []), none] (hs h i j (intsW ns') [.hp j, .int c', .int (t + ws.length), .int x']) :=
    (exL_next s1).trans ((exL_next s2).trans (exL_ret rfl))
  have e2 : A ++ List.replicate ((dMixed jd).cl.count true) (HObj.cell none) = A := List.append_nil _
  show (match exL (exS cf no5 sf) (dMixed jd).body [some (.sh (.hp i)), some (.lst os), none, none, none] (A ++ List.replicate ((dMixed jd).cl.count true) (HObj.cell none)) with
      | .ok (.ret o) s h' => R.ok o [] h'
      | .ok .next s h' => .ok (.sh .non) [] h'
      | .exc c ws _ h' => .exc c ws [] h'
      | _ => .fail) = _
  rw [e2, body]
theorem call_eq {ce : List (Option Nat)} {n j : Nat} {es : List ME} {s s1 : SL} {h h1 : HH} {os : List O} {r : R O} (e1 : evL (evE cf ce n) es s h = .ok os s1 h1) (e2 : callC cf ce (.fn j) os s1 h1 = r) : evE cf ce (n + 1) (.call j es []) s h = r := by
  show (evL (evE cf ce n) es s h).bind _ = _
  rw [e1]
  exact e2
theorem ret_eq {ce : List (Option Nat)} {n : Nat} {e : ME} {s s1 : SL} {h h1 : HH} {o : O} (e1 : evE cf ce ef e s h = .ok o s1 h1) : exS cf ce (n + 1) (.ret e) s h = .ok (.ret o) s1 h1 := by
  show (evE cf ce ef e s h).bind _ = _
  rw [e1]
  rfl
theorem set_eq {ce : List (Option Nat)} {n i : Nat} {e : ME} {s s1 : SL} {h h1 : HH} {o : O} (e1 : evE cf ce ef e s h = .ok o s1 h1) : exS cf ce (n + 1) (.set i e) s h = .ok .next (s1.set i (some o)) h1 := by
  show (evE cf ce ef e s h).bind _ = _
  rw [e1]
  rfl
theorem callC_eq {ce : List (Option Nat)} {c : Callee} {os : List O} {s s2 : SL} {h h2 : HH} {o : O} (e1 : pubC 0 ce s h = some ([], s, h)) (e2 : cf c os h = .ok o s2 h2) : callC cf ce c os s h = .ok o s h2 := by
  unfold callC
  rw [e1]
  show (match cf c os h with
    | .ok o _ h => (match unpC [] h with
      | some h => R.ok o s h
      | none => .fail)
    | .exc c ws _ h => (match unpC [] h with
      | some h => .exc c ws s h
      | none => .fail)
    | .fail => .fail) = _
  rw [e2]
  rfl
theorem runD_ret {d : DefR} {os : List O} {h h1 : HH} {o : O} {s1 : SL} (hf : d.fin = none) (hn : os.length = d.np) (hc : d.cl.count true = 0) (e : exL (exS cf (mkCe d.cl h.length) sf) d.body (os.map some ++ List.replicate (d.ns - d.np) none) h = .ok (.ret o) s1 h1) : runD cf d os h = .ok o [] h1 := by
  unfold runD
  rw [if_pos hn, hf, hc]
  dsimp only
  rw [List.replicate_zero, List.append_nil, e]
theorem mv_eq {ce : List (Option Nat)} {n i : Nat} {s : SL} {h : HH} {o : O} (e : s[i]? = some (some o)) : evE cf ce (n + 1) (.mv i) s h = .ok o (s.set i none) h := by
  simp only [evE, e]
theorem ev1_mv {f : ME → SL → HH → R O} {i : Nat} {s s1 : SL} {h h1 : HH} {k : Int} (e : f (.mv i) s h = .ok (.sh (.int k)) s1 h1) : ev1 f (.mv i) s h = .ok (.int k) s1 h1 := by
  show ((f (.mv i) s h).bind fun o s h => R.ok (Dl.now o.toW) s h).bind (fun d s h => ofO (d.get s h) s h) = _
  rw [e]
  rfl
theorem lrng_eq {ce : List (Option Nat)} {n : Nat} {a : ME} {s s1 : SL} {h h1 : HH} {k : Int} (e : ev1 (evE cf ce n) a s h = .ok (.int k) s1 h1) (hr : (rgOk k && decide (k.toNat ≤ line)) = true) : evE cf ce (n + 1) (.lrng a) s h = .ok (.lst ((rangeW 0 k 1).map .sh)) s1 h1 := by
  show (ev1 (evE cf ce n) a s h).bind _ = _
  rw [e]
  show (if (rgOk k && decide (k.toNat ≤ line)) = true then R.ok (O.lst ((rangeW 0 k 1).map .sh)) s1 h1 else .fail) = _
  rw [if_pos hr]
theorem evL_cons {f : ME → SL → HH → R O} {e : ME} {es : List ME} {s s1 s2 : SL} {h h1 h2 : HH} {o : O} {os : List O} (e1 : f e s h = .ok o s1 h1) (e2 : evL f es s1 h1 = .ok os s2 h2) : evL f (e :: es) s h = .ok (o :: os) s2 h2 := by
  show (f e s h).bind _ = _
  rw [e1]
  show (evL f es s1 h1).bind _ = _
  rw [e2]
  rfl
def dOrder (jm : Nat) : DefR := ⟨2, 2, [false, false], [.ret (.call jm [.mv 0, .lrng (.mv 1)] [])], none⟩
theorem toWs_sh (ws : List W) : O.toWs (ws.map .sh) = ws := toWs_map ws
/-- an order of so many -/
theorem order_eq {C : CF → Prop} {jd jm : Nat} (D : DrawOk C jd) (T : Two h i j) (k : Nat) (ns : List Int) (c t x : Int) (hm : k < 100000) (h4 : 0 ≤ c) (h5 : 0 ≤ t ∧ t + k ≤ 1000000000) (h6 : 0 ≤ x ∧ x < 2147483647) (h7 : ns.length ≤ 63) :
    ∃ (fs : List W) (ns' : List Int) (c' x' : Int), (∀ cf cf2, C cf → (∀ os h, cf2 (.fn jm) os h = runD cf (dMixed jd) os h) → runD cf2 (dOrder jm) [.sh (.hp i), .sh (.int k)] (hs h i j (intsW ns) [.hp j, .int c, .int t, .int x]) = .ok (.lst (fs.map .sh)) [] (hs h i j (intsW ns') [.hp j, .int c', .int (t + k), .int x'])) ∧
      fs.Perm (rangeW 0 k 1) ∧ 0 ≤ c' ∧ (0 ≤ x' ∧ x' < 2147483647) ∧ ns'.length ≤ 63 := by
  have hlen : (rangeW 0 k 1).length = k := by
    unfold rangeW turns
    rw [rngW_len]
    simp
  obtain ⟨fs, ns', c', x', e, r⟩ := mixed_eq D T ((rangeW 0 k 1).map .sh) (rangeW 0 k 1) ns c t x (toWs_map _) (by rw [hlen]; exact hm) h4 (by rw [hlen]; exact h5) h6 h7
  rw [hlen] at e
  refine ⟨fs, ns', c', x', fun cf cf2 hC em => ?_, r⟩
  have e := e cf hC
  rw [← em] at e
  generalize hs h i j (intsW ns) [.hp j, .int c, .int t, .int x] = A at e ⊢
  have hr : (rgOk (k : Int) && decide ((k : Int).toNat ≤ line)) = true := by
    unfold rgOk line
    simp only [Bool.and_eq_true, decide_eq_true_eq]
    omega
  have hk : k ≤ line := by
    unfold line
    omega
  have a1 : evL (evE cf2 [none, none] 59) [.mv 0, .lrng (.mv 1)] [some (.sh (.hp i)), some (.sh (.int k))] A = .ok [.sh (.hp i), .lst ((rangeW 0 k 1).map .sh)] [none, none] A :=
    evL_cons (mv_eq (n := 58) rfl) (evL_cons (lrng_eq (n := 58) (ev1_mv (mv_eq (n := 57) rfl)) hr) rfl)
  exact runD_ret rfl rfl rfl (exL_ret (ret_eq (n := 39) (call_eq (n := 59) a1 (callC_eq rfl e))))
/-- calls that draw -/
def Draws (jd : Nat) (cf : CF) : Prop := ∃ c1 : CF, ∀ os h, cf (.fn jd) os h = runD c1 dDraw os h
theorem draws_ok (jd : Nat) : DrawOk (Draws jd) jd := by
  intro h i j T ns c t x k h0 ht hx hk hl
  obtain ⟨n, ns', c', x', e, r⟩ := draw_eq T ns c t x k h0 ht hx hk hl
  exact ⟨n, ns', c', x', [], fun cf ⟨c1, hc⟩ => (hc _ _).trans (e c1), r⟩
end
end Mini
set_option Elab.async false
set_option linter.all false
set_option maxRecDepth 100000
set_option maxHeartbeats 1000000
/-! Mini: an order is kept. -/
namespace Mini
section
variable {cf : CF} {ce : List (Option Nat)} {n : Nat} {s s1 s2 : SL} {h h1 h2 : HH}
theorem evT_or2 {a b : ME} (e1 : evT cf ce n a s h = .ok false s1 h1) (e2 : evT cf ce n b s1 h1 = .ok false s2 h2) : evT cf ce (n + 1) (.or_ [a, b]) s h = .ok false s2 h2 := by
  show anyT (evT cf ce n) [a, b] s h = _
  simp [anyT, e1, e2, R.bind]
theorem evT_not {a : ME} {b : Bool} (e1 : evT cf ce n a s h = .ok b s1 h1) : evT cf ce (n + 1) (.not_ a) s h = .ok (!b) s1 h1 := by
  show (evT cf ce n a s h).bind _ = _
  rw [e1]
  rfl
theorem evT_call {j : Nat} {es : List ME} {b : Bool} (e : evE cf ce n (.call j es []) s h = .ok (.sh (.bl b)) s1 h1) : evT cf ce (n + 1) (.call j es []) s h = .ok b s1 h1 := by
  show (((evE cf ce n (.call j es []) s h).bind fun o s h => R.ok (Dl.now o.toW) s h).bind fun d s h => ofO (d.get s h) s h).bind (fun w s h => ofO (truW w) s h) = _
  rw [e]
  rfl
theorem evT_bi {k : BI} {es : List ME} {b : Bool} (e : evE cf ce n (.bi k es) s h = .ok (.sh (.bl b)) s1 h1) : evT cf ce (n + 1) (.bi k es) s h = .ok b s1 h1 := by
  show (((evE cf ce n (.bi k es) s h).bind fun o s h => R.ok (Dl.now o.toW) s h).bind fun d s h => ofO (d.get s h) s h).bind (fun w s h => ofO (truW w) s h) = _
  rw [e]
  rfl
theorem if_eq {c : ME} {a b : List MS} {t : Bool} {r : R Fl} (e : evT cf ce ef c s h = .ok t s1 h1) (e2 : (if t then exL (exS cf ce n) a s1 h1 else exL (exS cf ce n) b s1 h1) = r) : exS cf ce (n + 1) (.if_ c a b) s h = r := by
  show (evT cf ce ef c s h).bind _ = _
  rw [e]
  exact e2
theorem var_eq {i : Nat} {w : W} (e : s[i]? = some (some (.sh w))) : evE cf ce (n + 1) (.var i) s h = .ok (.sh w) s h := by
  simp only [evE, rdS, e]
theorem ofO_some {α : Type} {o : Option α} {a : α} (e : o = some a) : ofO o s h = .ok a s h := by
  rw [e]
  rfl
theorem comp_rule {own : List Nat} {tg : Tg} {it : IT} {ifs : Option ME} {elt : ME} : evE cf ce (n + 1) (.comp own tg it ifs elt) s h = (itE (evE cf ce n) it s h).bind fun k s h => if shOk s own && decide (k.ws.length ≤ line) then
      (compL tg own k.gs (testE (evT cf [] n) ifs) (evE cf [] n elt) k.ws [] s h).nox.bind fun os s' h => .ok (.lst os) (unwipe s own s') h else .fail := rfl
theorem lset_rule {a : ME} : evE cf ce (n + 1) (.lset a) s h = (evE cf ce n a s h).bind fun o s h => ofO (lensetF [o.toW]) s h := rfl
theorem cmpT_rule {op : COp} {a b : ME} : evT cf ce (n + 1) (.cmp op a b) s h = ev2 (evE cf ce n) a b s h fun x y s h => ofO (cmpD op x y) s h := rfl
theorem ite_rule {c a b : ME} : evE cf ce (n + 1) (.ite c a b) s h = (evT cf ce n c s h).bind fun t s h => if t then evE cf ce n a s h else evE cf ce n b s h := rfl
theorem bi1_rule {k : BI} {a : ME} : evE cf ce (n + 1) (.bi k [a]) s h = ((evD (evE cf ce n) a s h).bind fun d s h => R.ok [d] s h).bind fun ds s h => match getDs s h ds with
      | some ws => ofO (biW k ws) s h
      | none => .fail := rfl
theorem seq_rule {f : ME → SL → HH → R O} {e : ME} : itE f (.seq e) s h = (f e s h).bind fun o s h => ofO (lkW h o.toW) s h := rfl
theorem ev2_now {β : Type} {f : ME → SL → HH → R O} {a b : ME} {x y : W} {k : W → W → SL → HH → R β} (e1 : evD f a s h = .ok (.now x) s1 h1) (e2 : evD f b s1 h1 = .ok (.now y) s2 h2) : ev2 f a b s h k = k (vw h2 x) (vw h2 y) s2 h2 := by
  unfold ev2
  rw [e1]
  simp only [R.bind]
  rw [e2]
  rfl
theorem evD_bi {f : ME → SL → HH → R O} {k : BI} {es : List ME} {o : O} (e : f (.bi k es) s h = .ok o s1 h1) : evD f (.bi k es) s h = .ok (.now o.toW) s1 h1 := by
  show (f (.bi k es) s h).bind _ = _
  rw [e]
  rfl
/-- a comprehension whose parts are all true -/
theorem compT {elt : SL → HH → R O} {l : O} : ∀ (ws : List W) (acc : List O) (x : Option O), (∀ w ∈ ws, elt [some l, some (.sh w)] h = .ok (.sh (.bl true)) [some l, some (.sh w)] h) →
    ∃ y, compL (.one 1) [1] [] (testE (evT cf [] n) none) elt ws acc [some l, x] h = .ok (acc ++ List.replicate ws.length (.sh (.bl true))) [some l, y] h
  | [], acc, x, _ => ⟨x, by
    rw [List.length_nil, List.replicate_zero, List.append_nil]
    rfl⟩
  | w :: ws, acc, x, e => by
    obtain ⟨y, ih⟩ := compT ws (acc ++ [.sh (.bl true)]) (some (.sh w)) fun v hv => e v (List.mem_cons_of_mem _ hv)
    refine ⟨y, ?_⟩
    show ((elt [some l, some (.sh w)] h).bind fun o s h => compL (.one 1) [1] [] (testE (evT cf [] n) none) elt ws (acc ++ [o]) s h) = _
    rw [e w List.mem_cons_self]
    show compL (.one 1) [1] [] (testE (evT cf [] n) none) elt ws (acc ++ [.sh (.bl true)]) [some l, some (.sh w)] h = _
    rw [ih, List.append_assoc]
    rfl
theorem bls_true : ∀ k, bls? (O.toWs (List.replicate k (.sh (.bl true)))) = some (List.replicate k true)
  | 0 => rfl
  | k + 1 => by
    show (match bls? (O.toWs (List.replicate k (.sh (.bl true)))) with
      | some l => some (true :: l)
      | none => none) = _
    rw [bls_true k]
    rfl
theorem all_true : ∀ k, (List.replicate k true).all id = true
  | 0 => rfl
  | k + 1 => all_true k
def dKept (jl jb : Nat) : DefR := ⟨1, 2, [false, false], [.if_ (.or_ [.not_ (.call jl [.var 0] []), .not_ (.bi .all [.comp [1] (.one 1) (.seq (.var 0)) none (.call jb [.var 1, .bi .len [.var 0]] [])])]) [.ret (.cst .non)] [], .ret (.ite (.cmp .eq (.lset (.var 0)) (.bi .len [.var 0])) (.bi .tuple [.mv 0]) (.cst .non))], none⟩
theorem ints_eq : ∀ vs : List Int, ints? (intsW vs) = some vs
  | [] => rfl
  | v :: vs => by
    show (match ints? (intsW vs) with
      | some l => some (v :: l)
      | none => none) = _
    rw [ints_eq vs]
theorem kept_eq {jl jb : Nat} {vs : List Int} (hl : cf (.fn jl) [.sh (.lst (intsW vs))] h = .ok (.sh (.bl true)) [] h) (hb : ∀ v ∈ vs, cf (.fn jb) [.sh (.int v), .sh (.int vs.length)] h = .ok (.sh (.bl true)) [] h) (hu : unI vs = vs) (hn : vs.length ≤ 4000) :
    runD cf (dKept jl jb) [.sh (.lst (intsW vs))] h = .ok (.sh (.tup (intsW vs))) [] h := by
  have len : (intsW vs).length = vs.length := List.length_map _
  have lenE : ∀ {ce : List (Option Nat)} {n : Nat} {x : Option O}, evE cf ce (n + 2) (.bi .len [.var 0]) [some (.sh (.lst (intsW vs))), x] h = .ok (.sh (.int vs.length)) [some (.sh (.lst (intsW vs))), x] h := by
    intro ce n x
    show R.ok (O.sh (.int ((intsW vs).length : Int))) _ _ = _
    rw [len]
  have elt : ∀ {f : Nat} (w : W), w ∈ intsW vs → evE cf [] (f + 3) (.call jb [.var 1, .bi .len [.var 0]] []) [some (.sh (.lst (intsW vs))), some (.sh w)] h = .ok (.sh (.bl true)) [some (.sh (.lst (intsW vs))), some (.sh w)] h := by
    intro f w hw
    obtain ⟨v, hv, rfl⟩ := List.mem_map.mp hw
    exact call_eq (n := f + 2) (evL_cons (var_eq (n := f + 1) rfl) (evL_cons (lenE (n := f)) rfl)) (callC_eq rfl (hb v hv))
  have comp : ∀ {f : Nat}, evE cf [none, none] (f + 4) (.comp [1] (.one 1) (.seq (.var 0)) none (.call jb [.var 1, .bi .len [.var 0]] [])) [some (.sh (.lst (intsW vs))), none] h = .ok (.lst (List.replicate vs.length (.sh (.bl true)))) [some (.sh (.lst (intsW vs))), none] h := by
    intro f
    obtain ⟨y, e⟩ := compT (cf := cf) (n := f + 3) (h := h) (l := .sh (.lst (intsW vs))) (elt := evE cf [] (f + 3) (.call jb [.var 1, .bi .len [.var 0]] [])) (intsW vs) [] none fun w hw => elt w hw
    rw [comp_rule (n := f + 3)]
    have it : itE (evE cf [none, none] (f + 3)) (.seq (.var 0)) [some (.sh (.lst (intsW vs))), none] h = .ok ⟨intsW vs, []⟩ [some (.sh (.lst (intsW vs))), none] h := by
      rw [seq_rule, var_eq (n := f + 2) (w := .lst (intsW vs)) rfl]
      rfl
    rw [it]
    have hd : (shOk [some (.sh (.lst (intsW vs))), none] [1] && decide ((intsW vs).length ≤ line)) = true := by
      rw [len]
      simp only [Bool.and_eq_true, decide_eq_true_eq]
      exact ⟨rfl, by unfold line; omega⟩
    show (if (shOk [some (.sh (.lst (intsW vs))), none] [1] && decide ((intsW vs).length ≤ line)) = true then
      (compL (.one 1) [1] [] (testE (evT cf [] (f + 3)) none) (evE cf [] (f + 3) (.call jb [.var 1, .bi .len [.var 0]] [])) (intsW vs) [] [some (.sh (.lst (intsW vs))), none] h).nox.bind (fun os s' h => R.ok (O.lst os) (unwipe [some (.sh (.lst (intsW vs))), none] [1] s') h) else .fail) = _
    rw [if_pos hd, e, len]
    rfl
  have all : ∀ {f : Nat}, evE cf [none, none] (f + 5) (.bi .all [.comp [1] (.one 1) (.seq (.var 0)) none (.call jb [.var 1, .bi .len [.var 0]] [])]) [some (.sh (.lst (intsW vs))), none] h = .ok (.sh (.bl true)) [some (.sh (.lst (intsW vs))), none] h := by
    intro f
    have a2 : evD (evE cf [none, none] (f + 4)) (.comp [1] (.one 1) (.seq (.var 0)) none (.call jb [.var 1, .bi .len [.var 0]] [])) [some (.sh (.lst (intsW vs))), none] h = .ok (.now (.lst (O.toWs (List.replicate vs.length (.sh (.bl true)))))) [some (.sh (.lst (intsW vs))), none] h := by
      show (evE cf [none, none] (f + 4) (.comp [1] (.one 1) (.seq (.var 0)) none (.call jb [.var 1, .bi .len [.var 0]] [])) [some (.sh (.lst (intsW vs))), none] h).bind _ = _
      rw [comp]
      rfl
    rw [bi1_rule (n := f + 4), a2]
    show ofO (allF [.lst (O.toWs (List.replicate vs.length (.sh (.bl true))))]) _ _ = _
    refine ofO_some ?_
    show (match bls? (O.toWs (List.replicate vs.length (.sh (.bl true)))) with
      | some l => some (O.sh (.bl (l.all id)))
      | none => none) = _
    rw [bls_true]
    show some (O.sh (.bl ((List.replicate vs.length true).all id))) = _
    rw [all_true]
  have t1 : ∀ {f : Nat}, evT cf [none, none] (f + 8) (.or_ [.not_ (.call jl [.var 0] []), .not_ (.bi .all [.comp [1] (.one 1) (.seq (.var 0)) none (.call jb [.var 1, .bi .len [.var 0]] [])])]) [some (.sh (.lst (intsW vs))), none] h = .ok false [some (.sh (.lst (intsW vs))), none] h := by
    intro f
    exact evT_or2 (n := f + 7) (evT_not (n := f + 6) (b := true) (evT_call (n := f + 5) (call_eq (n := f + 4) (evL_cons (var_eq (n := f + 3) rfl) rfl) (callC_eq rfl hl)))) (evT_not (n := f + 6) (b := true) (evT_bi (n := f + 5) all))
  have hset : lensetF [.lst (intsW vs)] = some (.sh (.int vs.length)) := by
    show (match ints? (intsW vs) with
      | some l => if l.length ≤ 4000 then some (O.sh (.int (unI l).length)) else none
      | none => none) = _
    rw [ints_eq]
    show (if vs.length ≤ 4000 then some (O.sh (.int (unI vs).length)) else none) = _
    rw [if_pos hn, hu]
  have t2 : ∀ {f : Nat}, evT cf [none, none] (f + 4) (.cmp .eq (.lset (.var 0)) (.bi .len [.var 0])) [some (.sh (.lst (intsW vs))), none] h = .ok true [some (.sh (.lst (intsW vs))), none] h := by
    intro f
    have a1 : evE cf [none, none] (f + 3) (.lset (.var 0)) [some (.sh (.lst (intsW vs))), none] h = .ok (.sh (.int vs.length)) [some (.sh (.lst (intsW vs))), none] h := by
      rw [lset_rule (n := f + 2), var_eq (n := f + 1) (w := .lst (intsW vs)) rfl]
      exact ofO_some hset
    have a2 : evD (evE cf [none, none] (f + 3)) (.lset (.var 0)) [some (.sh (.lst (intsW vs))), none] h = .ok (.now (.int vs.length)) [some (.sh (.lst (intsW vs))), none] h := by
      show (evE cf [none, none] (f + 3) (.lset (.var 0)) [some (.sh (.lst (intsW vs))), none] h).bind _ = _
      rw [a1]
      rfl
    have a3 : evD (evE cf [none, none] (f + 3)) (.bi .len [.var 0]) [some (.sh (.lst (intsW vs))), none] h = .ok (.now (.int vs.length)) [some (.sh (.lst (intsW vs))), none] h := by
      exact evD_bi (lenE (n := f + 1))
    rw [cmpT_rule (n := f + 3), ev2_now a2 a3]
    show ofO (some (decide ((vs.length : Int) = vs.length))) _ _ = _
    exact ofO_some (by rw [decide_eq_true rfl])
  have t3 : evE cf [none, none] (58 + 1) (.bi .tuple [.mv 0]) [some (.sh (.lst (intsW vs))), none] h = .ok (.sh (.tup (intsW vs))) [none, none] h := by
    rfl
  refine runD_ret (s1 := [none, none]) rfl rfl rfl ?_
  refine (exL_next (if_eq (n := 39) (t := false) (t1 (f := 52)) rfl)).trans (exL_ret (ret_eq (n := 39) ?_))
  refine (ite_rule (n := 59)).trans ?_
  rw [t2 (f := 55)]
  exact t3
end
end Mini
set_option Elab.async false
set_option linter.all false
set_option maxRecDepth 100000
set_option maxHeartbeats 1000000
/-! Mini: numbers below a number; orders kept by callD. -/
namespace Mini
section
variable {cf : CF} {ce : List (Option Nat)} {n : Nat} {s s1 s2 : SL} {h h1 h2 : HH}
theorem and2_eq {a b : ME} {r : R O} (e1 : evE cf ce n a s h = .ok (.sh (.bl true)) s1 h1) (e2 : evE cf ce n b s1 h1 = r) : evE cf ce (n + 1) (.and_ [a, b]) s h = r := by
  show (evE cf ce n a s h).bind _ = _
  rw [e1]
  exact e2
theorem cmp_rule {op : COp} {a b : ME} : evE cf ce (n + 1) (.cmp op a b) s h = ev2 (evE cf ce n) a b s h fun x y s h => match cmpD op x y with
      | some b => .ok (.sh (.bl b)) s h
      | none => .fail := rfl
theorem evD_mv {f : ME → SL → HH → R O} {i : Nat} {o : O} (e : f (.mv i) s h = .ok o s1 h1) : evD f (.mv i) s h = .ok (.now o.toW) s1 h1 := by
  show (f (.mv i) s h).bind _ = _
  rw [e]
  rfl
theorem evD_cst {f : ME → SL → HH → R O} {w : W} {o : O} (e : f (.cst w) s h = .ok o s1 h1) : evD f (.cst w) s h = .ok (.now o.toW) s1 h1 := by
  show (f (.cst w) s h).bind _ = _
  rw [e]
  rfl
def dList : DefR := ⟨1, 1, [false], [.ret (.isty [.list, .tuple] (.mv 0))], none⟩
def dWhole : DefR := ⟨1, 1, [false], [.ret (.and_ [.isty [.int] (.var 0), .not_ (.isty [.bool] (.mv 0))])], none⟩
def dNumber (j : Nat) : DefR := ⟨1, 1, [false], [.ret (.and_ [.call j [.var 0] [], .cmp .ge (.mv 0) (.cst (.int 0))])], none⟩
def dBelow (j : Nat) : DefR := ⟨2, 2, [false, false], [.ret (.and_ [.call j [.var 0] [], .cmp .lt (.mv 0) (.mv 1)])], none⟩
theorem list_eq (xs : List W) : runD cf dList [.sh (.lst xs)] h = .ok (.sh (.bl true)) [] h := by
  have e : evE cf [none] (58 + 2) (.isty [.list, .tuple] (.mv 0)) [some (.sh (.lst xs))] h = .ok (.sh (.bl true)) [none] h := rfl
  exact runD_ret rfl rfl rfl (exL_ret (ret_eq (n := 39) e))
theorem whole_eq (v : Int) : runD cf dWhole [.sh (.int v)] h = .ok (.sh (.bl true)) [] h := by
  have e1 : ∀ {n : Nat}, evE cf [none] (n + 2) (.isty [.int] (.var 0)) [some (.sh (.int v))] h = .ok (.sh (.bl true)) [some (.sh (.int v))] h := rfl
  have e2 : ∀ {n : Nat}, evE cf [none] (n + 3) (.not_ (.isty [.bool] (.mv 0))) [some (.sh (.int v))] h = .ok (.sh (.bl true)) [none] h := rfl
  exact runD_ret rfl rfl rfl (exL_ret (ret_eq (n := 39) (and2_eq (n := 59) (e1 (n := 57)) (e2 (n := 56)))))
theorem number_eq {j : Nat} {v : Int} (e : cf (.fn j) [.sh (.int v)] h = .ok (.sh (.bl true)) s1 h) (hv : 0 ≤ v) : runD cf (dNumber j) [.sh (.int v)] h = .ok (.sh (.bl true)) [] h := by
  have e1 : evE cf [none] (58 + 1) (.call j [.var 0] []) [some (.sh (.int v))] h = .ok (.sh (.bl true)) [some (.sh (.int v))] h := call_eq (evL_cons (var_eq (n := 57) rfl) rfl) (callC_eq rfl e)
  have e2 : evE cf [none] (58 + 1) (.cmp .ge (.mv 0) (.cst (.int 0))) [some (.sh (.int v))] h = .ok (.sh (.bl true)) [none] h := by
    rw [cmp_rule, ev2_now (evD_mv (mv_eq (n := 57) rfl)) (evD_cst (o := .sh (.int 0)) rfl)]
    show (R.ok (O.sh (.bl (decide (0 ≤ v)))) _ _ : R O) = _
    rw [decide_eq_true hv]
    rfl
  exact runD_ret rfl rfl rfl (exL_ret (ret_eq (n := 39) (and2_eq (n := 59) e1 e2)))
theorem below_eq {j : Nat} {v m : Int} (e : cf (.fn j) [.sh (.int v)] h = .ok (.sh (.bl true)) s1 h) (hv : v < m) : runD cf (dBelow j) [.sh (.int v), .sh (.int m)] h = .ok (.sh (.bl true)) [] h := by
  have e1 : evE cf [none, none] (58 + 1) (.call j [.var 0] []) [some (.sh (.int v)), some (.sh (.int m))] h = .ok (.sh (.bl true)) [some (.sh (.int v)), some (.sh (.int m))] h := call_eq (evL_cons (var_eq (n := 57) rfl) rfl) (callC_eq rfl e)
  have e2 : evE cf [none, none] (58 + 1) (.cmp .lt (.mv 0) (.mv 1)) [some (.sh (.int v)), some (.sh (.int m))] h = .ok (.sh (.bl true)) [none, none] h := by
    rw [cmp_rule, ev2_now (evD_mv (mv_eq (n := 57) rfl)) (evD_mv (mv_eq (n := 57) rfl))]
    show (R.ok (O.sh (.bl (decide (v < m)))) _ _ : R O) = _
    rw [decide_eq_true hv]
    rfl
  exact runD_ret rfl rfl rfl (exL_ret (ret_eq (n := 39) (and2_eq (n := 59) e1 e2)))
/-- kept_order by callD; the defs' places -/
theorem keptD {Pg : List DefR} {LL : List LamR} {jk jl jb jn jw : Nat} (hk : Pg[jk]? = some (dKept jl jb)) (hl : Pg[jl]? = some dList) (hb : Pg[jb]? = some (dBelow jn)) (hn : Pg[jn]? = some (dNumber jw)) (hw : Pg[jw]? = some dWhole)
    (vs : List Int) (hv : ∀ v ∈ vs, 0 ≤ v ∧ v < vs.length) (hu : unI vs = vs) (h4 : vs.length ≤ 4000) (n : Nat) (h : HH) : callD Pg LL (n + 5) (.fn jk) [.sh (.lst (intsW vs))] h = .ok (.sh (.tup (intsW vs))) [] h := by
  rw [call_fn hk]
  refine kept_eq ((call_fn hl _ _).trans (list_eq _)) (fun v hm => ?_) hu h4
  refine (call_fn hb _ _).trans (below_eq (s1 := []) ?_ (hv v hm).2)
  refine (call_fn hn _ _).trans (number_eq (s1 := []) ?_ (hv v hm).1)
  exact (call_fn hw _ _).trans (whole_eq v)
theorem memI_in (x : Int) : ∀ l : List Int, memI x l = true ↔ x ∈ l
  | [] => by simp [memI]
  | y :: l => by
    unfold memI
    by_cases e : x = y
    · simp [e]
    · simp [e, memI_in x l]
theorem unI_id : ∀ {l : List Int}, l.Nodup → unI l = l
  | [], _ => rfl
  | x :: l, nd => by
    obtain ⟨h1, h2⟩ := List.nodup_cons.mp nd
    unfold unI
    have : ¬ memI x l = true := fun z => h1 ((memI_in x l).mp z)
    rw [if_neg this, unI_id h2]
theorem rng_ints : ∀ (n : Nat) (a : Int), rngW a 1 n = intsW ((List.range n).map fun i => a + (i : Nat))
  | 0, _ => rfl
  | n + 1, a => by
    show W.int a :: rngW (a + 1) 1 n = _
    rw [rng_ints n (a + 1), List.range_succ_eq_map]
    unfold intsW
    simp only [List.map_cons, List.map_map, Int.natCast_zero, Int.add_zero]
    congr 1
    refine List.map_congr_left fun i _ => ?_
    show W.int (a + 1 + (i : Int)) = W.int (a + ((i + 1 : Nat) : Int))
    congr 1
    omega
/-- what an order of range(k) is -/
theorem perm_ints {k : Nat} {ws : List W} (p : ws.Perm (rangeW 0 k 1)) : ∃ vs : List Int, ws = intsW vs ∧ vs.length = k ∧ (∀ v ∈ vs, 0 ≤ v ∧ v < vs.length) ∧ unI vs = vs := by
  have e : rangeW 0 k 1 = intsW ((List.range k).map fun i => ((i : Nat) : Int)) := by
    unfold rangeW turns
    rw [if_pos rfl, rng_ints]
    simp
  rw [e] at p
  have back : ∀ {ws : List W} {us : List Int}, ws.Perm (intsW us) → ∃ vs : List Int, ws = intsW vs ∧ vs.Perm us := by
    intro ws us p
    generalize hz : intsW us = zs at p
    induction p generalizing us with
    | nil =>
      cases us with
      | nil => exact ⟨[], rfl, .nil⟩
      | cons => cases hz
    | cons x p ih =>
      cases us with
      | nil => cases hz
      | cons u us =>
        injection hz with h1 h2
        obtain ⟨vs, rfl, q⟩ := ih h2
        exact ⟨u :: vs, by rw [← h1]; rfl, .cons u q⟩
    | swap x y l =>
      match us, hz with
      | a :: b :: us, hz =>
        injection hz with h1 h2
        injection h2 with h2 h3
        exact ⟨b :: a :: us, by rw [← h1, ← h2, ← h3]; rfl, List.Perm.swap a b us⟩
    | trans p q ih1 ih2 =>
      obtain ⟨vs, rfl, q2⟩ := ih2 hz
      obtain ⟨vs2, rfl, q3⟩ := ih1 rfl
      exact ⟨vs2, rfl, q3.trans q2⟩
  obtain ⟨vs, rfl, q⟩ := back p
  have len : vs.length = k := by simpa using q.length_eq
  refine ⟨vs, rfl, len, fun v hv => ?_, unI_id ?_⟩
  · have := q.mem_iff.mp hv
    obtain ⟨i, hi, rfl⟩ := List.mem_map.mp this
    have := List.mem_range.mp hi
    rw [len]
    omega
  · refine q.nodup_iff.mpr ?_
    refine List.Pairwise.map _ (fun a b hab => ?_) List.nodup_range
    intro z
    exact hab (by omega)
theorem mrk_rule {t : Nat} {a : ME} : evE cf ce (n + 1) (.mrk t a) s h = (evE cf ce n a s h).bind fun o s h => callR cf (.tok t) [o] s h := rfl
def isR (r : R Fl) : Bool := match r with
  | .ok (.ret (.sh (.bl true))) _ _ => true
  | _ => false
/-- a law's last word, out of its body -/
theorem lawO_ok {tok : Nat → W} {orc : Nat → List O → Option O} {pl : Nat → Bool} {n0 j : Nat} {Pg : List DefR} {LL : List LamR} {d : DefR} {ns : List Int} (ho : orc j [.sh (.ks (intsW ns))] = none) (hpl : pl j = false) (hj : Pg[j]? = some d) (hf : d.fin = none) (hn : d.np = 1)
    (e : isR (exL (exS (callO tok orc pl n0 Pg LL n) (mkCe d.cl 0) sf) d.body ([.sh (.ks (intsW ns))].map some ++ List.replicate (d.ns - d.np) none) ([] ++ List.replicate (d.cl.count true) (.cell none))) = true) :
    Out (callO tok orc pl n0 Pg LL (n + 1) (.fn j) [.sh (.ks (intsW ns))] []) (fun o _ _ => ∃ w, o = .sh w ∧ w = .bl true) fun _ _ _ _ => False := by
  have e1 : callO tok orc pl n0 Pg LL (n + 1) (.fn j) [.sh (.ks (intsW ns))] [] = runD (callO tok orc pl n0 Pg LL n) d [.sh (.ks (intsW ns))] [] := by
    show (match orc j [.sh (.ks (intsW ns))] with
        | some o => R.ok o [] []
        | none => if pl j then callD Pg LL (n0 + n + 1) (.fn j) [.sh (.ks (intsW ns))] [] else (match Pg[j]? with
          | some d => runD (callO tok orc pl n0 Pg LL n) d [.sh (.ks (intsW ns))] []
          | none => .fail)) = _
    rw [ho, hj, hpl]
    rfl
  rw [e1]
  unfold runD
  rw [if_pos (by rw [hn]; rfl), hf]
  dsimp only [List.length_nil] at e ⊢
  generalize exL (exS (callO tok orc pl n0 Pg LL n) (mkCe d.cl 0) sf) d.body ([.sh (.ks (intsW ns))].map some ++ List.replicate (d.ns - d.np) none) ([] ++ List.replicate (d.cl.count true) (.cell none)) = r at e ⊢
  unfold isR at e
  split at e
  · exact ⟨_, rfl, rfl⟩
  · cases e
end
end Mini
set_option Elab.async false
set_option linter.all false
set_option maxRecDepth 100000
set_option maxHeartbeats 1000000
/-! Walking: what a step computes, out of what its parts compute. -/
namespace Mini
section
variable {cf : CF} {ce : List (Option Nat)} {n : Nat} {s s1 s2 s3 : SL} {h h1 h2 h3 : HH} {f : ME → SL → HH → R O}
@[simp] theorem R.bind_ok {α β : Type} {a : α} {s : SL} {h : HH} {k : α → SL → HH → R β} : (R.ok a s h).bind k = k a s h := rfl
@[simp] theorem R.nox_ok {α : Type} {a : α} {s : SL} {h : HH} : (R.ok a s h).nox = .ok a s h := rfl
@[simp] theorem ofO_some' {α : Type} {a : α} {s : SL} {h : HH} : ofO (some a) s h = .ok a s h := rfl
def isV : ME → Bool
  | .var _ => true
  | _ => false
theorem d_slot {i : Nat} {w : W} (e : pkS s i = some w) : evD f (.var i) s h = .ok (.slot i) s h := by
  unfold evD
  simp only [e]
theorem d_e {e : ME} {o : O} (hv : isV e = false) (e1 : f e s h = .ok o s1 h1) : evD f e s h = .ok (.now o.toW) s1 h1 := by
  have : evD f e s h = (f e s h).bind fun o s h => .ok (.now o.toW) s h := by
    cases e <;> first | rfl | cases hv
  rw [this, e1]
  rfl
theorem v_d {e : ME} {d : Dl} {w : W} (e1 : evD f e s h = .ok d s1 h1) (e2 : d.get s1 h1 = some w) : ev1 f e s h = .ok w s1 h1 := by
  unfold ev1
  rw [e1, R.bind_ok, e2]
  rfl
theorem v2_d {β : Type} {a b : ME} {d e : Dl} {x y : W} {k : W → W → SL → HH → R β} {r : R β} (e1 : evD f a s h = .ok d s1 h1) (e2 : evD f b s1 h1 = .ok e s2 h2) (g1 : d.get s2 h2 = some x) (g2 : e.get s2 h2 = some y) (ek : k x y s2 h2 = r) : ev2 f a b s h k = r := by
  unfold ev2
  simp only [e1, R.bind_ok, e2, g1, g2]
  exact ek
theorem e_cst {w : W} : evE cf ce (n + 1) (.cst w) s h = .ok (.sh w) s h := rfl
theorem e_var {i : Nat} {w : W} (e : s[i]? = some (some (.sh w))) : evE cf ce (n + 1) (.var i) s h = .ok (.sh w) s h := by
  simp only [evE, rdS, e]
theorem e_mv {i : Nat} {o : O} (e : s[i]? = some (some o)) : evE cf ce (n + 1) (.mv i) s h = .ok o (s.set i none) h := by
  simp only [evE, e]
theorem e_fn {j : Nat} : evE cf ce (n + 1) (.fn j) s h = .ok (.sh (.fn j)) s h := rfl
theorem e_bin {op : BOp} {a b : ME} {d e : Dl} {x y : W} {o : O} (e1 : evD (evE cf ce n) a s h = .ok d s1 h1) (e2 : evD (evE cf ce n) b s1 h1 = .ok e s2 h2) (g1 : d.get s2 h2 = some x) (g2 : e.get s2 h2 = some y) (e3 : binW op x y = some o) : evE cf ce (n + 1) (.bin op a b) s h = .ok o s2 h2 :=
  v2_d (k := fun x y s h => ofO (binW op x y) s h) e1 e2 g1 g2 (by rw [e3]; rfl)
theorem e_cmp {op : COp} {a b : ME} {d e : Dl} {x y : W} {t : Bool} (e1 : evD (evE cf ce n) a s h = .ok d s1 h1) (e2 : evD (evE cf ce n) b s1 h1 = .ok e s2 h2) (g1 : d.get s2 h2 = some x) (g2 : e.get s2 h2 = some y) (e3 : cmpD op x y = some t) : evE cf ce (n + 1) (.cmp op a b) s h = .ok (.sh (.bl t)) s2 h2 :=
  v2_d (β := O) (k := fun x y s h => match cmpD op x y with
    | some b => R.ok (O.sh (.bl b)) s h
    | none => R.fail) e1 e2 g1 g2 (by simp only [e3])
theorem e_idx {a b : ME} {d e : Dl} {x y w : W} (e1 : evD (evE cf ce n) a s h = .ok d s1 h1) (e2 : evD (evE cf ce n) b s1 h1 = .ok e s2 h2) (g1 : d.get s2 h2 = some x) (g2 : e.get s2 h2 = some y) (e3 : getW x y = some w) : evE cf ce (n + 1) (.idx a b) s h = .ok (.sh w) s2 h2 :=
  v2_d (β := O) (k := fun x y s h => match getW x y with
    | some b => R.ok (O.sh b) s h
    | none => R.fail) e1 e2 g1 g2 (by simp only [e3])
theorem e_neg {a : ME} {i : Int} (e1 : ev1 (evE cf ce n) a s h = .ok (.int i) s1 h1) : evE cf ce (n + 1) (.neg a) s h = .ok (.sh (.int (-i))) s1 h1 := by
  show (ev1 (evE cf ce n) a s h).bind _ = _
  rw [e1]
  rfl
theorem e_isn {ne : Bool} {a : ME} {w : W} (e1 : ev1 (evE cf ce n) a s h = .ok w s1 h1) : evE cf ce (n + 1) (.isn ne a) s h = .ok (.sh (.bl (if ne then !isNon w else isNon w))) s1 h1 := by
  show (ev1 (evE cf ce n) a s h).bind _ = _
  rw [e1]
  rfl
theorem e_not {a : ME} {w : W} {b : Bool} (e1 : ev1 (evE cf ce n) a s h = .ok w s1 h1) (e2 : truW w = some b) : evE cf ce (n + 1) (.not_ a) s h = .ok (.sh (.bl (!b))) s1 h1 := by
  show (ev1 (evE cf ce n) a s h).bind _ = _
  rw [e1]
  show (match truW w with
    | some b => R.ok (O.sh (.bl (!b))) s1 h1
    | none => .fail) = _
  rw [e2]
theorem e_iteT {c a b : ME} {r : R O} (e1 : evT cf ce n c s h = .ok true s1 h1) (e2 : evE cf ce n a s1 h1 = r) : evE cf ce (n + 1) (.ite c a b) s h = r := by
  show (evT cf ce n c s h).bind _ = _
  rw [e1]
  exact e2
theorem e_iteF {c a b : ME} {r : R O} (e1 : evT cf ce n c s h = .ok false s1 h1) (e2 : evE cf ce n b s1 h1 = r) : evE cf ce (n + 1) (.ite c a b) s h = r := by
  show (evT cf ce n c s h).bind _ = _
  rw [e1]
  exact e2
theorem e_ite {c a b : ME} {t : Bool} {r1 r2 : R O} (e1 : evT cf ce n c s h = .ok t s1 h1) (e2 : t = true → evE cf ce n a s1 h1 = r1) (e3 : t = false → evE cf ce n b s1 h1 = r2) : evE cf ce (n + 1) (.ite c a b) s h = if t then r1 else r2 := by
  cases t with
  | true => exact e_iteT e1 (e2 rfl)
  | false => exact e_iteF e1 (e3 rfl)
theorem l_nil : evL f [] s h = .ok [] s h := rfl
theorem l_cons {e : ME} {es : List ME} {o : O} {os : List O} (e1 : f e s h = .ok o s1 h1) (e2 : evL f es s1 h1 = .ok os s2 h2) : evL f (e :: es) s h = .ok (o :: os) s2 h2 := by
  show (f e s h).bind _ = _
  rw [e1]
  show (evL f es s1 h1).bind _ = _
  rw [e2]
  rfl
theorem e_tup {es : List ME} {os : List O} {ws : List W} (e1 : evL (evE cf ce n) es s h = .ok os s1 h1) (e2 : shs? os = some ws) : evE cf ce (n + 1) (.tup es) s h = .ok (.sh (.tup ws)) s1 h1 := by
  show (evL (evE cf ce n) es s h).bind _ = _
  rw [e1]
  show (match shs? os with
    | some ws => R.ok (O.sh (.tup ws)) s1 h1
    | none => .ok (.tup os) s1 h1) = _
  rw [e2]
theorem e_tupO {es : List ME} {os : List O} (e1 : evL (evE cf ce n) es s h = .ok os s1 h1) (e2 : shs? os = none) : evE cf ce (n + 1) (.tup es) s h = .ok (.tup os) s1 h1 := by
  show (evL (evE cf ce n) es s h).bind _ = _
  rw [e1]
  show (match shs? os with
    | some ws => R.ok (O.sh (.tup ws)) s1 h1
    | none => .ok (.tup os) s1 h1) = _
  rw [e2]
theorem e_lst {es : List ME} {os : List O} (e1 : evL (evE cf ce n) es s h = .ok os s1 h1) : evE cf ce (n + 1) (.lst es) s h = .ok (.lst os) s1 h1 := by
  show (evL (evE cf ce n) es s h).bind _ = _
  rw [e1]
  rfl
theorem ds_nil : evDs f [] s h = .ok [] s h := rfl
theorem ds_cons {e : ME} {es : List ME} {d : Dl} {ds : List Dl} (e1 : evD f e s h = .ok d s1 h1) (e2 : evDs f es s1 h1 = .ok ds s2 h2) : evDs f (e :: es) s h = .ok (d :: ds) s2 h2 := by
  show (evD f e s h).bind _ = _
  rw [e1]
  show (evDs f es s1 h1).bind _ = _
  rw [e2]
  rfl
theorem g_nil : getDs s h [] = some [] := rfl
theorem g_cons {d : Dl} {ds : List Dl} {w : W} {ws : List W} (e1 : d.get s h = some w) (e2 : getDs s h ds = some ws) : getDs s h (d :: ds) = some (w :: ws) := by
  simp only [getDs, e1, e2]
theorem e_bi {b : BI} {es : List ME} {ds : List Dl} {ws : List W} {o : O} (e1 : evDs (evE cf ce n) es s h = .ok ds s1 h1) (e2 : getDs s1 h1 ds = some ws) (e3 : biW b ws = some o) : evE cf ce (n + 1) (.bi b es) s h = .ok o s1 h1 := by
  show (evDs (evE cf ce n) es s h).bind _ = _
  rw [e1, R.bind_ok]
  simp only [e2, e3]
  rfl
theorem e_lset {a : ME} {o o' : O} (e1 : evE cf ce n a s h = .ok o s1 h1) (e2 : lensetF [o.toW] = some o') : evE cf ce (n + 1) (.lset a) s h = .ok o' s1 h1 := by
  show (evE cf ce n a s h).bind _ = _
  rw [e1, R.bind_ok, e2]
  rfl
theorem e_isty {ts : List Ty} {a : ME} {w : W} {b : Bool} (e1 : ev1 (evE cf ce n) a s h = .ok w s1 h1) (e2 : isTyW ts w = some b) : evE cf ce (n + 1) (.isty ts a) s h = .ok (.sh (.bl b)) s1 h1 := by
  show (ev1 (evE cf ce n) a s h).bind _ = _
  rw [e1, R.bind_ok]
  simp only [e2]
theorem o_none : evO f none s h = .ok none s h := rfl
theorem o_some {e : ME} {i : Int} (e1 : ev1 f e s h = .ok (.int i) s1 h1) : evO f (some e) s h = .ok (some i) s1 h1 := by
  show (ev1 f e s h).bind _ = _
  rw [e1]
  rfl
theorem e_slc {a : ME} {lo hi : Option ME} {d : Dl} {x : W} {l u : Option Int} {o : O} (e1 : evD (evE cf ce n) a s h = .ok d s1 h1) (e2 : evO (evE cf ce n) lo s1 h1 = .ok l s2 h2) (e3 : evO (evE cf ce n) hi s2 h2 = .ok u s3 h3) (g : d.get s3 h3 = some x) (e4 : slcW x l u = some o) : evE cf ce (n + 1) (.slc a lo hi) s h = .ok o s3 h3 := by
  show (evD (evE cf ce n) a s h).bind _ = _
  rw [e1, R.bind_ok, e2, R.bind_ok, e3, R.bind_ok]
  simp only [g, e4]
  rfl
theorem e_rev {a : ME} {w : W} {o : O} (e1 : ev1 (evE cf ce n) a s h = .ok w s1 h1) (e2 : revW w = some o) : evE cf ce (n + 1) (.rev a) s h = .ok o s1 h1 := by
  show (ev1 (evE cf ce n) a s h).bind _ = _
  rw [e1, R.bind_ok, e2]
  rfl
theorem e_call {j : Nat} {es : List ME} {os : List O} {o : O} {s' : SL} (e1 : evL (evE cf ce n) es s h = .ok os s1 h1) (e2 : pubC 0 ce s1 h1 = some ([], s1, h1)) (e3 : cf (.fn j) os h1 = .ok o s' h2) : evE cf ce (n + 1) (.call j es []) s h = .ok o s1 h2 := call_eq e1 (callC_eq e2 e3)
theorem e_index {a b : ME} {d : Dl} {xs : List W} {y w : W} (e1 : evD (evE cf ce n) a s h = .ok d s1 h1) (g : d.get s1 h1 = some (.lst xs)) (e2 : ev1 (evE cf ce n) b s1 h1 = .ok y s1 h1) (e3 : indexW (.lst xs) y = some w) : evE cf ce (n + 1) (.index a b) s h = .ok (.sh w) s1 h1 := by
  show (evD (evE cf ce n) a s h).bind _ = _
  rw [e1, R.bind_ok]
  simp only [g, e2, R.bind_ok, e3]
theorem e_lrng {a : ME} {k : Int} (e1 : ev1 (evE cf ce n) a s h = .ok (.int k) s1 h1) (hr : (rgOk k && decide (k.toNat ≤ line)) = true) : evE cf ce (n + 1) (.lrng a) s h = .ok (.lst ((rangeW 0 k 1).map .sh)) s1 h1 := lrng_eq e1 hr
theorem e_btup {a : ME} {o o' : O} (e1 : evE cf ce n a s h = .ok o s1 h1) (e2 : tupO o = some o') : evE cf ce (n + 1) (.btup a) s h = .ok o' s1 h1 := by
  show (evE cf ce n a s h).bind _ = _
  rw [e1, R.bind_ok, e2]
  rfl
theorem e_bcall {j : Nat} {is : List Nat} {ws : List W} {w : W} {s' : SL} {h' : HH} (e1 : lookS s is = some ws) (e2 : cf (.fn j) (ws.map .sh) (hide h) = .ok (.sh w) s' h') (e3 : (flat0 w && decide (h'.length = h.length)) = true) : evE cf ce (n + 1) (.bcall j is) s h = .ok (.sh w) s h := by
  show bcallR cf j is s h = _
  unfold bcallR
  simp only [e1, e2, e3]
  rfl
theorem e_comp {own : List Nat} {tg : Tg} {it : IT} {ifs : Option ME} {elt : ME} {k : Wk} {os : List O} (e1 : itE (evE cf ce n) it s h = .ok k s1 h1) (e2 : shOk s1 own = true) (e3 : k.ws.length ≤ line) (e4 : compL tg own k.gs (testE (evT cf [] n) ifs) (evE cf [] n elt) k.ws [] s1 h1 = .ok os s2 h2) : evE cf ce (n + 1) (.comp own tg it ifs elt) s h = .ok (.lst os) (unwipe s1 own s2) h2 := by
  rw [comp_rule, e1, R.bind_ok, if_pos (by rw [e2]; simpa using e3), e4]
  rfl
theorem t_not {a : ME} {b : Bool} (e1 : evT cf ce n a s h = .ok b s1 h1) : evT cf ce (n + 1) (.not_ a) s h = .ok (!b) s1 h1 := evT_not e1
theorem t_cmp {op : COp} {a b : ME} {d e : Dl} {x y : W} {t : Bool} (e1 : evD (evE cf ce n) a s h = .ok d s1 h1) (e2 : evD (evE cf ce n) b s1 h1 = .ok e s2 h2) (g1 : d.get s2 h2 = some x) (g2 : e.get s2 h2 = some y) (e3 : cmpD op x y = some t) : evT cf ce (n + 1) (.cmp op a b) s h = .ok t s2 h2 :=
  v2_d (k := fun x y s h => ofO (cmpD op x y) s h) e1 e2 g1 g2 (by rw [e3]; rfl)
theorem t_isn {ne : Bool} {a : ME} {w : W} (e1 : ev1 (evE cf ce n) a s h = .ok w s1 h1) : evT cf ce (n + 1) (.isn ne a) s h = .ok (if ne then !isNon w else isNon w) s1 h1 := by
  show (ev1 (evE cf ce n) a s h).bind _ = _
  rw [e1]
  rfl
def tE : ME → Bool
  | .not_ _ => false | .and_ _ => false | .or_ _ => false | .ite _ _ _ => false | .cmp2 _ _ _ _ _ => false | .isn _ _ => false | .isb _ _ _ => false | .cmp _ _ _ => false | .kin _ _ _ => false
  | _ => true
theorem t_e {e : ME} {w : W} {b : Bool} (ht : tE e = true) (e1 : ev1 (evE cf ce n) e s h = .ok w s1 h1) (e2 : truW w = some b) : evT cf ce (n + 1) e s h = .ok b s1 h1 := by
  have : evT cf ce (n + 1) e s h = (ev1 (evE cf ce n) e s h).bind fun w s h => ofO (truW w) s h := by
    cases e <;> first | rfl | cases ht
  rw [this, e1, R.bind_ok, e2]
  rfl
theorem t_and2 {a b : ME} {x y : Bool} (e1 : evT cf ce n a s h = .ok x s h) (e2 : x = true → evT cf ce n b s h = .ok y s h) : evT cf ce (n + 1) (.and_ [a, b]) s h = .ok (x && y) s h := by
  show allT (evT cf ce n) [a, b] s h = _
  cases x with
  | false => simp [allT, e1]
  | true => cases y <;> simp [allT, e1, e2 rfl]
theorem t_or2 {a b : ME} {x y : Bool} (e1 : evT cf ce n a s h = .ok x s h) (e2 : x = false → evT cf ce n b s h = .ok y s h) : evT cf ce (n + 1) (.or_ [a, b]) s h = .ok (x || y) s h := by
  show anyT (evT cf ce n) [a, b] s h = _
  cases x with
  | true => simp [anyT, e1]
  | false => cases y <;> simp [anyT, e1, e2 rfl]
/-- a value that is told by `and` -/
theorem e_and2 {a b : ME} {x y : Bool} (e1 : evE cf ce n a s h = .ok (.sh (.bl x)) s h) (e2 : x = true → evE cf ce n b s h = .ok (.sh (.bl y)) s h) : evE cf ce (n + 1) (.and_ [a, b]) s h = .ok (.sh (.bl (x && y))) s h := by
  show andL (evE cf ce n) [a, b] s h = _
  cases x with
  | false => simp [andL, e1, O.toW, vw, truW]
  | true => simp [andL, e1, O.toW, vw, truW, e2 rfl]
theorem e_or2 {a b : ME} {x y : Bool} (e1 : evE cf ce n a s h = .ok (.sh (.bl x)) s h) (e2 : x = false → evE cf ce n b s h = .ok (.sh (.bl y)) s h) : evE cf ce (n + 1) (.or_ [a, b]) s h = .ok (.sh (.bl (x || y))) s h := by
  show orL (evE cf ce n) [a, b] s h = _
  cases x with
  | true => simp [orL, e1, O.toW, vw, truW]
  | false => simp [orL, e1, O.toW, vw, truW, e2 rfl]
theorem t_none : testE (evT cf ce n) none s h = .ok true s h := rfl
theorem t_some {c : ME} {b : Bool} (e : evT cf ce n c s h = .ok b s1 h1) : testE (evT cf ce n) (some c) s h = .ok b s1 h1 := e
theorem i_seq {e : ME} {o : O} {k : Wk} (e1 : f e s h = .ok o s1 h1) (e2 : lkW h1 o.toW = some k) : itE f (.seq e) s h = .ok k s1 h1 := by
  show (f e s h).bind _ = _
  rw [e1, R.bind_ok, e2]
  rfl
theorem i_rng1 {b : ME} {d : Dl} {i : Int} (e1 : evD f b s h = .ok d s1 h1) (g : d.get s1 h1 = some (.int i)) (hr : rgOk i = true) : itE f (.rng1 b) s h = .ok ⟨rangeW 0 i 1, []⟩ s1 h1 := by
  show (evDs f [b] s h).bind _ = _
  rw [ds_cons e1 ds_nil, R.bind_ok]
  simp only [g_cons g g_nil, hr, if_true]
theorem i_rng2 {a b : ME} {d e : Dl} {i j : Int} (e1 : evD f a s h = .ok d s1 h1) (e2 : evD f b s1 h1 = .ok e s2 h2) (g1 : d.get s2 h2 = some (.int i)) (g2 : e.get s2 h2 = some (.int j)) (hr : rgOk i = true) (hr2 : rgOk j = true) : itE f (.rng2 a b) s h = .ok ⟨rangeW i j 1, []⟩ s2 h2 := by
  show (evDs f [a, b] s h).bind _ = _
  rw [ds_cons e1 (ds_cons e2 ds_nil), R.bind_ok]
  simp only [g_cons g1 (g_cons g2 g_nil), hr, hr2, Bool.and_self, if_true]
theorem i_enum {e : ME} {o : O} {k : Wk} (e1 : f e s h = .ok o s1 h1) (e2 : lkW h1 o.toW = some k) : itE f (.enum e) s h = .ok ⟨enumW 0 k.ws, k.gs⟩ s1 h1 := by
  show (f e s h).bind _ = _
  rw [e1, R.bind_ok]
  simp only [e2]
theorem i_zip {a b : ME} {os : List O} {k : Wk} (e1 : evL f [a, b] s h = .ok os s1 h1) (e2 : lkZ h1 (O.toWs os) = some k) : itE f (.zip a b) s h = .ok k s1 h1 := by
  show (evL f [a, b] s h).bind _ = _
  rw [e1, R.bind_ok, e2]
  rfl
theorem s_expr {e : ME} {o : O} (e1 : evE cf ce ef e s h = .ok o s1 h1) : exS cf ce (n + 1) (.expr e) s h = .ok .next s1 h1 := by
  show (evE cf ce ef e s h).bind _ = _
  rw [e1]
  rfl
theorem s_set {i : Nat} {e : ME} {o : O} (e1 : evE cf ce ef e s h = .ok o s1 h1) : exS cf ce (n + 1) (.set i e) s h = .ok .next (s1.set i (some o)) h1 := set_eq e1
theorem s_par {is : List Nat} {es : List ME} {os : List O} (e1 : evL (evE cf ce ef) es s h = .ok os s1 h1) (e2 : setOs s1 is os = some s2) : exS cf ce (n + 1) (.par is es) s h = .ok .next s2 h1 := by
  show (evL (evE cf ce ef) es s h).bind _ = _
  rw [e1, R.bind_ok]
  simp only [e2]
theorem s_unp {is : List Nat} {e : ME} {ws : List W} (e1 : evE cf ce ef e s h = .ok (.sh (.tup ws)) s1 h1) (e2 : setMany s1 is ws = some s2) : exS cf ce (n + 1) (.unp is e) s h = .ok .next s2 h1 := by
  show (evE cf ce ef e s h).bind _ = _
  rw [e1, R.bind_ok]
  simp only [e2]
theorem s_ret {e : ME} {o : O} (e1 : evE cf ce ef e s h = .ok o s1 h1) : exS cf ce (n + 1) (.ret e) s h = .ok (.ret o) s1 h1 := ret_eq e1
theorem s_ifT {c : ME} {a b : List MS} {r : R Fl} (e1 : evT cf ce ef c s h = .ok true s1 h1) (e2 : exL (exS cf ce n) a s1 h1 = r) : exS cf ce (n + 1) (.if_ c a b) s h = r := if_eq e1 e2
theorem s_ifF {c : ME} {a b : List MS} {r : R Fl} (e1 : evT cf ce ef c s h = .ok false s1 h1) (e2 : exL (exS cf ce n) b s1 h1 = r) : exS cf ce (n + 1) (.if_ c a b) s h = r := if_eq e1 e2
theorem s_app {i : Nat} {e : ME} {o : O} {xs : List O} (e0 : s[i]? = some (some (.lst xs))) (e1 : evE cf ce ef e s h = .ok o s1 h1) (e2 : s1[i]? = some (some (.lst xs))) (hl : xs.length < line) : exS cf ce (n + 1) (.app (.var i) e) s h = .ok .next (s1.set i (some (.lst (xs ++ [o])))) h1 := by
  have p : evP (evE cf ce ef) (.var i) s h = .ok (.slot i) s h := by
    unfold evP
    simp only [e0]
  have pl : evPl (evE cf ce ef) (.var i) s h = .ok (.slot i) s h := by
    unfold evPl
    rw [p, R.bind_ok]
    simp [isLp, e0]
  refine app_eq pl e1 ?_
  unfold appP
  simp only [e2, hl, if_true]
theorem s_ext {i : Nat} {e : ME} {o : O} {xs ys : List O} (e0 : s[i]? = some (some (.lst xs))) (e1 : evE cf ce ef e s h = .ok o s1 h1) (e2 : s1[i]? = some (some (.lst xs))) (e3 : extO o = some ys) (hl : xs.length + ys.length ≤ line) : exS cf ce (n + 1) (.ext i e) s h = .ok .next (s1.set i (some (.lst (xs ++ ys)))) h1 := by
  show (match s[i]? with
      | some (some (.lst _)) => (evE cf ce ef e s h).bind fun v s h => match s[i]?, extO v with
        | some (some (.lst xs)), some ys => if xs.length + ys.length ≤ line then R.ok Fl.next (s.set i (some (.lst (xs ++ ys)))) h else .fail
        | _, _ => .fail
      | _ => .fail) = _
  simp only [e0, e1, R.bind_ok, e2, e3, hl, if_true]
theorem s_for {tg : Tg} {it : IT} {body : List MS} {k : Wk} {r : R Fl} (e : itE (evE cf ce ef) it s h = .ok k s1 h1) (e2 : forL tg k.gs (exL (exS cf ce n) body) k.ws s1 h1 = r) : exS cf ce (n + 1) (.for_ tg it body) s h = r := by
  show (itE (evE cf ce ef) it s h).bind _ = _
  rw [e]
  exact e2
theorem s_while {m : Nat} {c : ME} {body : List MS} {r : R Fl} (e : whileL (evT cf ce ef c) (exL (exS cf ce n) body) m s h = r) : exS cf ce (n + 1) (.while_ m c body) s h = r := e
theorem b_nil {g : MS → SL → HH → R Fl} : exL g [] s h = .ok .next s h := rfl
theorem b_next {g : MS → SL → HH → R Fl} {m : MS} {ms : List MS} {r : R Fl} (e : g m s h = .ok .next s1 h1) (e2 : exL g ms s1 h1 = r) : exL g (m :: ms) s h = r := (exL_next e).trans e2
theorem b_ret {g : MS → SL → HH → R Fl} {m : MS} {ms : List MS} {o : O} (e : g m s h = .ok (.ret o) s1 h1) : exL g (m :: ms) s h = .ok (.ret o) s1 h1 := exL_ret e
theorem b_cont {g : MS → SL → HH → R Fl} {m : MS} {ms : List MS} (e : g m s h = .ok .cont s1 h1) : exL g (m :: ms) s h = .ok .cont s1 h1 := by
  show (g m s h).bind _ = _
  rw [e]
  rfl
/-- a def run, its parts written out -/
theorem run_ret {np ns : Nat} {cl : List Bool} {body : List MS} {os : List O} {s0 : SL} {ce0 : List (Option Nat)} {o : O} (hn : os.length = np) (hc : cl.count true = 0) (hs : os.map some ++ List.replicate (ns - np) none = s0) (hce : mkCe cl h.length = ce0) (e : exL (exS cf ce0 (39 + 1)) body s0 h = .ok (.ret o) s1 h1) : runD cf ⟨np, ns, cl, body, none⟩ os h = .ok o [] h1 := by
  subst hs
  subst hce
  exact runD_ret rfl hn hc e
end
end Mini
set_option Elab.async false
set_option linter.all false
set_option maxRecDepth 100000
set_option maxHeartbeats 1000000
/-! Walking: values as they lie. -/
namespace Mini
abbrev nW (n : Nat) : W := .int (n : Int)
def natsW (v : List Nat) : List W := v.map nW
theorem natsW_len (v : List Nat) : (natsW v).length = v.length := List.length_map _
theorem getW_tupN {v : List Nat} {i : Int} (h0 : 0 ≤ i) (h1 : i < v.length) : getW (.tup (natsW v)) (.int i) = some (nW (v.getD i.toNat 0)) := by
  have h2 : i.toNat < v.length := by omega
  show (match ixN (natsW v).length i with
    | some j => (natsW v)[j]?
    | none => none) = _
  rw [natsW_len, ixN, if_pos h0, if_pos h1]
  simp [natsW, h2]
theorem getW_lstN {v : List Nat} {i : Int} (h0 : 0 ≤ i) (h1 : i < v.length) : getW (.lst (natsW v)) (.int i) = some (nW (v.getD i.toNat 0)) := getW_tupN h0 h1
theorem rgOk_b {i : Int} (h0 : -4611686018427387904 ≤ i) (h1 : i < 4611686018427387904) : rgOk i = true := by
  unfold rgOk
  simp [h0, h1]
theorem rng_nat : ∀ (n : Nat) (a : Nat), rngW (a : Int) 1 n = natsW (List.range' a n)
  | 0, _ => rfl
  | n + 1, a => by
    show W.int a :: rngW ((a : Int) + 1) 1 n = _
    have := rng_nat n (a + 1)
    rw [show ((a + 1 : Nat) : Int) = (a : Int) + 1 by omega] at this
    rw [this]
    rfl
theorem range0 (b : Int) : rangeW 0 b 1 = natsW (List.range b.toNat) := by
  have := rng_nat (b - 0).toNat 0
  rw [show (b - 0).toNat = b.toNat by omega, ← List.range_eq_range'] at this
  rw [← this]
  simp [rangeW, turns]
theorem ir1 {f : ME → SL → HH → R O} {s s1 : SL} {h h1 : HH} {b : ME} {d : Dl} {i : Int} {m : Nat} (e1 : evD f b s h = .ok d s1 h1) (g : d.get s1 h1 = some (.int i)) (hb : -4611686018427387904 ≤ i ∧ i < 4611686018427387904) (hm : i.toNat = m) : itE f (.rng1 b) s h = .ok ⟨(List.range m).map nW, []⟩ s1 h1 := by
  rw [i_rng1 e1 g (rgOk_b hb.1 hb.2), range0, hm]
  rfl
theorem ir2 {f : ME → SL → HH → R O} {s s1 s2 : SL} {h h1 h2 : HH} {a b : ME} {d e : Dl} {i j : Int} {l m : Nat} (e1 : evD f a s h = .ok d s1 h1) (e2 : evD f b s1 h1 = .ok e s2 h2) (g1 : d.get s2 h2 = some (.int i)) (g2 : e.get s2 h2 = some (.int j)) (hb : 0 ≤ i ∧ i < 4611686018427387904 ∧ -4611686018427387904 ≤ j ∧ j < 4611686018427387904) (hl : i.toNat = l) (hm : (j - i).toNat = m) : itE f (.rng2 a b) s h = .ok ⟨(List.range' l m).map nW, []⟩ s2 h2 := by
  rw [i_rng2 e1 e2 g1 g2 (rgOk_b (by omega) hb.2.1) (rgOk_b hb.2.2.1 hb.2.2.2)]
  have : rangeW i j 1 = natsW (List.range' l m) := by
    have hi : i = ((l : Nat) : Int) := by omega
    unfold rangeW turns
    rw [if_pos rfl, hm, hi, rng_nat]
  rw [this]
  rfl
/-- a call, own cells known through it -/
theorem e_callP {cf : CF} {ce : List (Option Nat)} {n j : Nat} {es : List ME} {os : List O} {o : O} {s s1 s2 s' : SL} {h h1 h2 h3 h4 : HH} {js : List Nat} (e1 : evL (evE cf ce n) es s h = .ok os s1 h1) (e2 : pubC 0 ce s1 h1 = some (js, s2, h2)) (e3 : cf (.fn j) os h2 = .ok o s' h3) (e4 : unpC js h3 = some h4) : evE cf ce (n + 1) (.call j es []) s h = .ok o s2 h4 := by
  refine call_eq e1 ?_
  unfold callC
  simp only [e2, e3, e4]
theorem e_callK {cf : CF} {ce : List (Option Nat)} {n j : Nat} {es : List ME} {os os' : List O} {kw : List Nat} {o : O} {s s1 s2 s' : SL} {h h1 h2 h3 h4 : HH} {js : List Nat} (e1 : evL (evE cf ce n) es s h = .ok os s1 h1) (e0 : pickO kw os = some os') (e2 : pubC 0 ce s1 h1 = some (js, s2, h2)) (e3 : cf (.fn j) os' h2 = .ok o s' h3) (e4 : unpC js h3 = some h4) : evE cf ce (n + 1) (.call j es kw) s h = .ok o s2 h4 := by
  show (evL (evE cf ce n) es s h).bind _ = _
  rw [e1, R.bind_ok]
  simp only [e0]
  unfold callC
  simp only [e2, e3, e4]
theorem len_tupN {v : List Nat} : biW .len [.tup (natsW v)] = some (.sh (.int v.length)) := by
  show some (O.sh (.int ((natsW v).length : Nat))) = _
  rw [natsW_len]
theorem len_lstN {v : List Nat} : biW .len [.lst (natsW v)] = some (.sh (.int v.length)) := len_tupN
/-- a comprehension that computes g of those for which p; j is the slot of its one name -/
theorem comp1 {X : Type} {enc : X → W} {p : X → Bool} {g : X → O} {j : Nat} {test : SL → HH → R Bool} {elt : SL → HH → R O} {h : HH} {s : SL} (hj : j < s.length) : ∀ (xs : List X), (∀ x ∈ xs, test (s.set j (some (.sh (enc x)))) h = .ok (p x) (s.set j (some (.sh (enc x)))) h) → (∀ x ∈ xs, p x = true → elt (s.set j (some (.sh (enc x)))) h = .ok (g x) (s.set j (some (.sh (enc x)))) h) → ∀ (z : Option O) (acc : List O),
    ∃ z', compL (.one j) [j] [] test elt (xs.map enc) acc (s.set j z) h = .ok (acc ++ (xs.filter p).map g) (s.set j z') h
  | [], _, _, z, acc => ⟨z, by simp [compL, guard]⟩
  | x :: xs, ht, he, z, acc => by
    have ih := comp1 (enc := enc) hj xs (fun y hy => ht y (List.mem_cons_of_mem _ hy)) (fun y hy => he y (List.mem_cons_of_mem _ hy)) (some (.sh (enc x)))
    have e1 := ht x List.mem_cons_self
    have hs : setTg (wipe (s.set j z) [j]) (.one j) (enc x) = some (s.set j (some (.sh (enc x)))) := by simp [wipe, setTg, List.set_set]
    by_cases hp : p x = true
    · obtain ⟨z', e⟩ := ih (acc ++ [g x])
      refine ⟨z', ?_⟩
      simp [compL, guard, hs, e1, hp, he x List.mem_cons_self hp, e]
    · obtain ⟨z', e⟩ := ih acc
      refine ⟨z', ?_⟩
      simp [compL, guard, hs, e1, hp]
      simpa using e
theorem e_comp1 {X : Type} {enc : X → W} {xs : List X} {p : X → Bool} {g : X → O} {j n : Nat} {cf : CF} {ce : List (Option Nat)} {it : IT} {ifs : Option ME} {elt : ME} {s s1 : SL} {h h1 : HH} (e1 : itE (evE cf ce n) it s h = .ok ⟨xs.map enc, []⟩ s1 h1) (e2 : s1[j]? = some none) (e3 : xs.length ≤ line)
    (ht : ∀ x ∈ xs, testE (evT cf [] n) ifs (s1.set j (some (.sh (enc x)))) h1 = .ok (p x) (s1.set j (some (.sh (enc x)))) h1) (he : ∀ x ∈ xs, p x = true → evE cf [] n elt (s1.set j (some (.sh (enc x)))) h1 = .ok (g x) (s1.set j (some (.sh (enc x)))) h1) :
    evE cf ce (n + 1) (.comp [j] (.one j) it ifs elt) s h = .ok (.lst ((xs.filter p).map g)) s1 h1 := by
  have hj := (List.getElem?_eq_some_iff.mp e2).1
  obtain ⟨z', e⟩ := comp1 (enc := enc) hj xs ht he none []
  have e0 : s1.set j none = s1 := set_get e2
  rw [e0] at e
  have := e_comp (own := [j]) (elt := elt) e1 (by simp [shOk, e2]) (by simpa using e3) e
  rw [this]
  simp [unwipe, List.set_set, e2, List.getD, e0]
end Mini
set_option Elab.async false
set_option linter.all false
set_option maxRecDepth 100000
set_option maxHeartbeats 1000000
/-! Walking: small defs that many laws use. -/
namespace Mini
/-- a list or a tuple of such things -/
def IsSq (w : W) (xs : List W) : Prop := w = .lst xs ∨ w = .tup xs
theorem isT_sq {w : W} {xs : List W} (q : IsSq w xs) : isTyW [.list, .tuple] w = some true := by rcases q with rfl | rfl <;> rfl
theorem len_sq {w : W} {xs : List W} (q : IsSq w xs) : biW .len [w] = some (.sh (.int xs.length)) := by rcases q with rfl | rfl <;> rfl
theorem vw_sq {w : W} {xs : List W} (q : IsSq w xs) (h : HH) : vw h w = w := by rcases q with rfl | rfl <;> rfl
theorem lk_sq {w : W} {xs : List W} (q : IsSq w xs) (h : HH) : lkW h w = some ⟨xs, []⟩ := by rcases q with rfl | rfl <;> rfl
theorem tup_sq {w : W} {xs : List W} (q : IsSq w xs) : biW .tuple [w] = some (.sh (.tup xs)) := by rcases q with rfl | rfl <;> rfl
theorem lset_sq {w : W} {vs : List Int} (q : IsSq w (intsW vs)) (hn : vs.length ≤ 4000) (hu : unI vs = vs) : lensetF [w] = some (.sh (.int vs.length)) := by
  rcases q with rfl | rfl <;> simp only [lensetF, ints_eq, hn, if_true, hu]
def IsOrd (v : List Nat) : Prop := v.Perm (List.range v.length)
theorem IsOrd.lt {v : List Nat} (q : IsOrd v) {x : Nat} (h : x ∈ v) : x < v.length := List.mem_range.mp (q.mem_iff.mp h)
theorem IsOrd.nd {v : List Nat} (q : IsOrd v) : v.Nodup := q.nodup_iff.mpr List.nodup_range
theorem natsW_ints (v : List Nat) : natsW v = intsW (v.map fun (n : Nat) => (n : Int)) := by
  unfold natsW intsW
  rw [List.map_map]
  rfl
theorem unI_nats {v : List Nat} (q : v.Nodup) : unI (v.map fun (n : Nat) => (n : Int)) = v.map fun (n : Nat) => (n : Int) :=
  unI_id (List.Pairwise.map _ (fun a b hab z => hab (by omega)) q)
section
variable {cf : CF} {h : HH}
def kList : DefR := ⟨1, 1, [false], [.ret (.isty [.list, .tuple] (.var 0))], none⟩
def kWhole : DefR := ⟨1, 1, [false], [.ret (.and_ [.isty [.int] (.var 0), .not_ (.isty [.bool] (.var 0))])], none⟩
def kNumber (j : Nat) : DefR := ⟨1, 1, [false], [.ret (.and_ [.call j [.var 0] [], .cmp .ge (.var 0) (.cst (.int 0))])], none⟩
def kBelow (j : Nat) : DefR := ⟨2, 2, [false, false], [.ret (.and_ [.call j [.var 0] [], .cmp .lt (.var 0) (.var 1)])], none⟩
def kKept (jl jb : Nat) : DefR := ⟨1, 2, [false, false], [.if_ (.or_ [.not_ (.call jl [.var 0] []), .not_ (.bi .all [.comp [1] (.one 1) (.seq (.var 0)) none (.call jb [.var 1, .bi .len [.var 0]] [])])]) [.ret (.cst .non)] [], .ret (.ite (.cmp .eq (.lset (.var 0)) (.bi .len [.var 0])) (.bi .tuple [.var 0]) (.cst .non))], none⟩
def kNeed (jk c : Nat) : DefR := ⟨1, 2, [false, false], [.set 1 (.call jk [.var 0] []), .if_ (.isn false (.var 1)) [.raise_ c [.var 0]] [], .ret (.mv 1)], none⟩
theorem pk_sh {s : SL} {i : Nat} {w : W} (e : s[i]? = some (some (.sh w))) : pkS s i = some w := by
  unfold pkS
  simp only [e]
theorem list_w {w : W} {b : Bool} (hv : vw h w = w) (e : isTyW [.list, .tuple] w = some b) : runD cf kList [.sh w] h = .ok (.sh (.bl b)) [] h :=
  runD_ret (s1 := [some (.sh w)]) rfl rfl rfl (b_ret (s_ret (n := 39) (e_isty (n := 59) (w := w) (v_d (d_slot (pk_sh (w := w) rfl)) (by show some (vw h w) = _; rw [hv])) e)))
theorem whole_w {v : Int} : runD cf kWhole [.sh (.int v)] h = .ok (.sh (.bl true)) [] h :=
  runD_ret (s1 := [some (.sh (.int v))]) rfl rfl rfl (b_ret (s_ret (n := 39) (e_and2 (n := 59) (x := true) (y := true) (e_isty (n := 58) (w := .int v) (v_d (d_slot rfl) rfl) rfl) fun _ => e_not (n := 58) (w := .bl false) (b := false) (v_d (d_e rfl (e_isty (n := 57) (w := .int v) (v_d (d_slot rfl) rfl) rfl)) rfl) rfl)))
theorem number_w {j : Nat} {v : Int} (e : cf (.fn j) [.sh (.int v)] h = .ok (.sh (.bl true)) [] h) : runD cf (kNumber j) [.sh (.int v)] h = .ok (.sh (.bl (decide (0 ≤ v)))) [] h :=
  runD_ret (s1 := [some (.sh (.int v))]) rfl rfl rfl (b_ret (s_ret (n := 39) (e_and2 (n := 59) (x := true) (y := decide (0 ≤ v)) (e_call (n := 58) (l_cons (e_var (n := 57) rfl) l_nil) rfl e) fun _ => e_cmp (n := 58) (x := .int v) (y := .int 0) (d_slot rfl) (d_e rfl (e_cst (n := 57))) rfl rfl rfl)))
theorem below_w {j : Nat} {v m : Int} {b : Bool} (e : cf (.fn j) [.sh (.int v)] h = .ok (.sh (.bl b)) [] h) : runD cf (kBelow j) [.sh (.int v), .sh (.int m)] h = .ok (.sh (.bl (b && decide (v < m)))) [] h :=
  runD_ret (s1 := [some (.sh (.int v)), some (.sh (.int m))]) rfl rfl rfl (b_ret (s_ret (n := 39) (e_and2 (n := 59) (x := b) (y := decide (v < m)) (e_call (n := 58) (l_cons (e_var (n := 57) rfl) l_nil) rfl e) fun _ => e_cmp (n := 58) (x := .int v) (y := .int m) (d_slot rfl) (d_slot rfl) rfl rfl rfl)))
theorem bls_map {X : Type} (f : X → Bool) : ∀ xs : List X, bls? (O.toWs (xs.map fun x => .sh (.bl (f x)))) = some (xs.map f)
  | [] => rfl
  | x :: xs => by
    show (match bls? (O.toWs (xs.map fun x => .sh (.bl (f x)))) with
      | some l => some (f x :: l)
      | none => none) = _
    rw [bls_map f xs]
    rfl
theorem all_map {X : Type} {f : X → Bool} {xs : List X} : biW .all [.lst (O.toWs (xs.map fun x => .sh (.bl (f x))))] = some (.sh (.bl (xs.all f))) := by
  show (match bls? (O.toWs (xs.map fun x => .sh (.bl (f x)))) with
    | some l => some (O.sh (.bl (l.all id)))
    | none => none) = _
  rw [bls_map]
  simp [List.all_map]
theorem any_map {X : Type} {f : X → Bool} {xs : List X} : biW .any [.lst (O.toWs (xs.map fun x => .sh (.bl (f x))))] = some (.sh (.bl (xs.any f))) := by
  show (match bls? (O.toWs (xs.map fun x => .sh (.bl (f x)))) with
    | some l => some (O.sh (.bl (l.any id)))
    | none => none) = _
  rw [bls_map]
  simp [List.any_map]
/-- kept_order of an order -/
theorem kept_w {jl jb : Nat} {w : W} {v : List Nat} (q : IsSq w (natsW v)) (hv : IsOrd v) (h4 : v.length ≤ 4000) (el : cf (.fn jl) [.sh w] h = .ok (.sh (.bl true)) [] h)
    (eb : ∀ x ∈ v, cf (.fn jb) [.sh (.int x), .sh (.int v.length)] h = .ok (.sh (.bl true)) [] h) : runD cf (kKept jl jb) [.sh w] h = .ok (.sh (.tup (natsW v))) [] h := by
  have hvw := vw_sq q h
  have hl : (natsW v).length = v.length := natsW_len v
  have len : ∀ {ce n} {z : Option O}, evE cf ce (n + 1) (.bi .len [.var 0]) [some (.sh w), z] h = .ok (.sh (.int v.length)) [some (.sh w), z] h := fun {ce n z} =>
    e_bi (ws := [w]) (ds_cons (d_slot (pk_sh (w := w) rfl)) ds_nil) (g_cons (by show some (vw h w) = _; rw [hvw]) g_nil) (by rw [len_sq q, hl])
  have comp : evE cf (mkCe [false, false] h.length) (55 + 1) (.comp [1] (.one 1) (.seq (.var 0)) none (.call jb [.var 1, .bi .len [.var 0]] [])) [some (.sh w), none] h = .ok (.lst ((v.filter fun _ => true).map fun _ => .sh (.bl true))) [some (.sh w), none] h :=
    e_comp1 (enc := nW) (xs := v) (i_seq (e_var (n := 54) (w := w) rfl) (lk_sq q h)) rfl (by unfold line; omega) (fun x _ => t_none) fun x hx _ => e_call (n := 54) (l_cons (e_var (n := 53) rfl) (l_cons (len (n := 53)) l_nil)) rfl (eb x hx)
  have all : evE cf (mkCe [false, false] h.length) (56 + 1) (.bi .all [.comp [1] (.one 1) (.seq (.var 0)) none (.call jb [.var 1, .bi .len [.var 0]] [])]) [some (.sh w), none] h = .ok (.sh (.bl true)) [some (.sh w), none] h := by
    refine e_bi (ds_cons (d_e rfl comp) ds_nil) (g_cons rfl g_nil) ?_
    have := all_map (f := fun _ => true) (xs := v.filter fun _ => true)
    rw [show (List.filter (fun _ => true) v).all (fun _ => true) = true by simp] at this
    exact this
  have t1 : evT cf (mkCe [false, false] h.length) (59 + 1) (.or_ [.not_ (.call jl [.var 0] []), .not_ (.bi .all [.comp [1] (.one 1) (.seq (.var 0)) none (.call jb [.var 1, .bi .len [.var 0]] [])])]) [some (.sh w), none] h = .ok false [some (.sh w), none] h :=
    t_or2 (x := false) (y := false) (t_not (n := 58) (b := true) (t_e (n := 57) rfl (v_d (d_e rfl (e_call (n := 56) (l_cons (e_var (n := 55) (w := w) rfl) l_nil) rfl el)) rfl) rfl)) fun _ => t_not (n := 58) (b := true) (t_e (n := 57) rfl (v_d (d_e rfl all) rfl) rfl)
  have hset : lensetF [w] = some (.sh (.int v.length)) := by
    have := lset_sq (vs := v.map fun (n : Nat) => (n : Int)) (by rw [← natsW_ints]; exact q) (by simpa using h4) (unI_nats hv.nd)
    simpa using this
  refine runD_ret (s1 := [some (.sh w), none]) rfl rfl rfl (b_next (s_ifF (n := 39) t1 rfl) (b_ret (s_ret (n := 39) (e_iteT (n := 59) (s1 := [some (.sh w), none]) (h1 := h) ?_ ?_))))
  · exact t_cmp (n := 58) (x := .int v.length) (y := .int v.length) (d_e rfl (e_lset (n := 57) (e_var (n := 56) (w := w) rfl) hset)) (d_e rfl (len (n := 57))) rfl rfl (by show some (decide ((v.length : Int) = v.length)) = _; simp)
  · exact e_bi (n := 58) (ws := [w]) (ds_cons (d_slot (pk_sh (w := w) rfl)) ds_nil) (g_cons (by show some (vw h w) = _; rw [hvw]) g_nil) (tup_sq q)
theorem need_w {jk c : Nat} {w : W} {xs : List W} (e : cf (.fn jk) [.sh w] h = .ok (.sh (.tup xs)) [] h) : runD cf (kNeed jk c) [.sh w] h = .ok (.sh (.tup xs)) [] h :=
  runD_ret (s1 := [some (.sh w), none]) rfl rfl rfl (b_next (s_set (n := 39) (e_call (n := 59) (l_cons (e_var (n := 58) (w := w) rfl) l_nil) rfl e)) (b_next (s_ifF (n := 39) (t_isn (n := 59) (w := .tup xs) (v_d (d_slot rfl) rfl)) rfl) (b_ret (s_ret (n := 39) (e_mv (n := 59) rfl)))))
/-- by callD; the defs' places -/
structure Ords (Pg : List DefR) (jk : Nat) : Prop where
  ex : ∃ jl jb jn jw, Pg[jk]? = some (kKept jl jb) ∧ Pg[jl]? = some kList ∧ Pg[jb]? = some (kBelow jn) ∧ Pg[jn]? = some (kNumber jw) ∧ Pg[jw]? = some kWhole
theorem keptW {Pg : List DefR} {LL : List LamR} {jk : Nat} (D : Ords Pg jk) {w : W} {v : List Nat} (q : IsSq w (natsW v)) (hv : IsOrd v) (h4 : v.length ≤ 4000) (n : Nat) (h : HH) : callD Pg LL (n + 4) (.fn jk) [.sh w] h = .ok (.sh (.tup (natsW v))) [] h := by
  obtain ⟨jl, jb, jn, jw, h1, h2, h3, h4', h5⟩ := D.ex
  rw [call_fn h1]
  refine kept_w q hv h4 ((call_fn h2 _ _).trans (list_w (vw_sq q h) (isT_sq q))) fun x hx => ?_
  have e1 : callD Pg LL (n + 1) (.fn jw) [.sh (.int x)] h = .ok (.sh (.bl true)) [] h := (call_fn h5 _ _).trans whole_w
  have e2 : callD Pg LL (n + 2) (.fn jn) [.sh (.int x)] h = .ok (.sh (.bl (decide (0 ≤ (x : Int))))) [] h := (call_fn h4' _ _).trans (number_w e1)
  refine (call_fn h3 _ _).trans ((below_w e2).trans ?_)
  have := hv.lt hx
  rw [decide_eq_true (by omega : (0 : Int) ≤ x), decide_eq_true (by omega : (x : Int) < v.length)]
  rfl
theorem needW {Pg : List DefR} {LL : List LamR} {jk jn c : Nat} (hn : Pg[jn]? = some (kNeed jk c)) (D : Ords Pg jk) {w : W} {v : List Nat} (q : IsSq w (natsW v)) (hv : IsOrd v) (h4 : v.length ≤ 4000) (n : Nat) (h : HH) : callD Pg LL (n + 5) (.fn jn) [.sh w] h = .ok (.sh (.tup (natsW v))) [] h := by
  rw [call_fn hn]
  exact need_w (keptW D q hv h4 n h)
end
end Mini
set_option Elab.async false
set_option linter.all false
set_option maxRecDepth 100000
set_option maxHeartbeats 1000000
/-! Walking: things compared, copied, spoilt, asked twice. -/
namespace Mini
/-- a plain thing, at most so deep -/
def plainL (L : Nat) : Nat → W → Bool
  | 0, _ => false
  | n + 1, w => match w with
    | .non => true | .bl _ => true | .int _ => true
    | .str s => s.all fun c => decide (c < 1114112)
    | .tup ws => decide (ws.length ≤ L) && ws.all (plainL L n)
    | .lst ws => decide (ws.length ≤ L) && ws.all (plainL L n)
    | _ => false
abbrev plainD (n : Nat) (w : W) : Bool := plainL 1000000 n w
theorem plain_up {L L' : Nat} (hL : L ≤ L') : ∀ {n : Nat} {w : W}, plainL L n w = true → plainL L' (n + 1) w = true
  | 0, w, e => by cases e
  | n + 1, w, e => by
    cases w with
    | tup ws =>
      simp only [plainL, Bool.and_eq_true, List.all_eq_true, decide_eq_true_eq] at e ⊢
      exact ⟨by omega, fun x hx => plain_up hL (e.2 x hx)⟩
    | lst ws =>
      simp only [plainL, Bool.and_eq_true, List.all_eq_true, decide_eq_true_eq] at e ⊢
      exact ⟨by omega, fun x hx => plain_up hL (e.2 x hx)⟩
    | _ => exact e
theorem plain_of {L L' : Nat} (hL : L ≤ L') : ∀ {n : Nat} {w : W}, plainL L n w = true → plainL L' n w = true
  | 0, w, e => by cases e
  | n + 1, w, e => by
    cases w with
    | tup ws =>
      simp only [plainL, Bool.and_eq_true, List.all_eq_true, decide_eq_true_eq] at e ⊢
      exact ⟨by omega, fun x hx => plain_of hL (e.2 x hx)⟩
    | lst ws =>
      simp only [plainL, Bool.and_eq_true, List.all_eq_true, decide_eq_true_eq] at e ⊢
      exact ⟨by omega, fun x hx => plain_of hL (e.2 x hx)⟩
    | _ => exact e
theorem plain_le {L n m : Nat} (h : n ≤ m) {w : W} (e : plainL L n w = true) : plainL L m w = true := by
  induction m with
  | zero =>
    obtain rfl : n = 0 := by omega
    exact e
  | succ m ih =>
    by_cases q : n = m + 1
    · subst q; exact e
    · exact plain_up (Nat.le_refl L) (ih (by omega))
section
variable {cf : CF} {h : HH}
/-- a comprehension, in general -/
theorem compG {X : Type} {enc : X → W} {p : X → Bool} {g : X → O} {tg : Tg} {own : List Nat} {test : SL → HH → R Bool} {elt : SL → HH → R O} {h : HH} {S : Option X → SL}
    (hset : ∀ z x, setTg (wipe (S z) own) tg (enc x) = some (S (some x))) : ∀ (xs : List X), (∀ x ∈ xs, test (S (some x)) h = .ok (p x) (S (some x)) h) → (∀ x ∈ xs, p x = true → elt (S (some x)) h = .ok (g x) (S (some x)) h) → ∀ (z : Option X) (acc : List O),
    ∃ z', compL tg own [] test elt (xs.map enc) acc (S z) h = .ok (acc ++ (xs.filter p).map g) (S z') h
  | [], _, _, z, acc => ⟨z, by simp [compL, guard]⟩
  | x :: xs, ht, he, z, acc => by
    have ih := compG hset xs (fun y hy => ht y (List.mem_cons_of_mem _ hy)) (fun y hy => he y (List.mem_cons_of_mem _ hy)) (some x)
    have e1 := ht x List.mem_cons_self
    by_cases hp : p x = true
    · obtain ⟨z', e⟩ := ih (acc ++ [g x])
      refine ⟨z', ?_⟩
      simp [compL, guard, hset, e1, hp, he x List.mem_cons_self hp, e]
    · obtain ⟨z', e⟩ := ih acc
      refine ⟨z', ?_⟩
      simp [compL, guard, hset, e1, hp]
      simpa using e
theorem e_compG {X : Type} {enc : X → W} {xs : List X} {p : X → Bool} {g : X → O} {tg : Tg} {own : List Nat} {n : Nat} {ce : List (Option Nat)} {it : IT} {ifs : Option ME} {elt : ME} {s : SL} {h1 : HH} (S : Option X → SL) (e1 : itE (evE cf ce n) it s h = .ok ⟨xs.map enc, []⟩ (S none) h1) (e2 : shOk (S none) own = true) (e3 : xs.length ≤ line)
    (hset : ∀ z x, setTg (wipe (S z) own) tg (enc x) = some (S (some x))) (hun : ∀ z, unwipe (S none) own (S z) = S none)
    (ht : ∀ x ∈ xs, testE (evT cf [] n) ifs (S (some x)) h1 = .ok (p x) (S (some x)) h1) (he : ∀ x ∈ xs, p x = true → evE cf [] n elt (S (some x)) h1 = .ok (g x) (S (some x)) h1) :
    evE cf ce (n + 1) (.comp own tg it ifs elt) s h = .ok (.lst ((xs.filter p).map g)) (S none) h1 := by
  obtain ⟨z', e⟩ := compG hset xs ht he none []
  have := e_comp (elt := elt) e1 e2 (by simpa using e3) e
  rw [this, hun]
  rfl
def kSame (j : Nat) : DefR := ⟨2, 4, [false, false, false, false], [.if_ (.isty [.list, .tuple] (.var 1)) [.if_ (.or_ [.cmp .ne (.isty [.list] (.var 0)) (.isty [.list] (.var 1)), .cmp .ne (.isty [.tuple] (.var 0)) (.isty [.tuple] (.var 1))]) [.ret (.cst (.bl false))] [], .ret (.and_ [.cmp .eq (.bi .len [.var 0]) (.bi .len [.var 1]), .bi .all [.comp [2, 3] (.many [2, 3]) (.zip (.var 0) (.var 1)) none (.call j [.var 2, .var 3] [])]])] [], .if_ (.isty [.dict] (.var 1)) [.ret (.and_ [.isty [.dict] (.var 0), .call j [.shr (.items (.var 0)), .shr (.items (.var 1))] []])] [], .if_ (.or_ [.isty [.bool] (.var 1), .isty [.bool] (.var 0)]) [.ret (.and_ [.isty [.bool] (.var 1), .isty [.bool] (.var 0), .cmp .eq (.var 0) (.var 1)])] [], .if_ (.or_ [.isn false (.var 1), .isn false (.var 0)]) [.ret (.and_ [.isn false (.var 1), .isn false (.var 0)])] [], .if_ (.or_ [.cmp .ne (.isty [.int] (.var 1)) (.isty [.int] (.var 0)), .cmp .ne (.isty [.str] (.var 1)) (.isty [.str] (.var 0))]) [.ret (.cst (.bl false))] [], .ret (.and_ [.not_ (.isty [.list, .tuple, .dict] (.var 0)), .cmp .eq (.var 0) (.var 1)])], none⟩
theorem zip_self : ∀ ws : List W, zipW ws ws = ws.map fun w => .tup [w, w]
  | [] => rfl
  | w :: ws => by
    show W.tup [w, w] :: zipW ws ws = _
    rw [zip_self ws]
    rfl
theorem int_refl (i : Int) : decide (i = i) = true := decide_eq_true rfl
theorem same_seq {j : Nat} {w : W} {ws : List W} (q : IsSq w ws) (hl : ws.length ≤ 1000000) (ih : ∀ x ∈ ws, cf (.fn j) [.sh x, .sh x] h = .ok (.sh (.bl true)) [] h) : runD cf (kSame j) [.sh w, .sh w] h = .ok (.sh (.bl true)) [] h := by
  have len : ∀ {i : Nat} {ce n} {y z : Option O}, i = 0 ∨ i = 1 → evE cf ce (n + 1) (.bi .len [.var i]) [some (.sh w), some (.sh w), y, z] h = .ok (.sh (.int ws.length)) [some (.sh w), some (.sh w), y, z] h := fun {i ce n y z} hi =>
    e_bi (ws := [w]) (ds_cons (d_slot (pk_sh (w := w) (by rcases hi with rfl | rfl <;> rfl))) ds_nil) (g_cons (by rcases hi with rfl | rfl <;> (show some (vw h w) = _; rw [vw_sq q])) g_nil) (len_sq q)
  have comp : evE cf (mkCe [false, false, false, false] h.length) (57 + 1) (.comp [2, 3] (.many [2, 3]) (.zip (.var 0) (.var 1)) none (.call j [.var 2, .var 3] [])) [some (.sh w), some (.sh w), none, none] h = .ok (.lst ((ws.filter fun _ => true).map fun _ => .sh (.bl true))) [some (.sh w), some (.sh w), none, none] h := by
    refine e_compG (enc := fun w => .tup [w, w]) (xs := ws) (fun z => [some (.sh w), some (.sh w), z.map .sh, z.map .sh]) (i_zip (os := [.sh w, .sh w]) (l_cons (e_var (n := 56) rfl) (l_cons (e_var (n := 56) rfl) l_nil)) ?_) rfl (by unfold line; omega) (fun z x => rfl) (fun z => rfl) (fun x _ => t_none) fun x hx _ => e_call (n := 56) (l_cons (e_var (n := 55) rfl) (l_cons (e_var (n := 55) rfl) l_nil)) rfl (ih x hx)
    rw [← zip_self]
    rcases q with rfl | rfl <;> rfl
  have all : evE cf (mkCe [false, false, false, false] h.length) (58 + 1) (.bi .all [.comp [2, 3] (.many [2, 3]) (.zip (.var 0) (.var 1)) none (.call j [.var 2, .var 3] [])]) [some (.sh w), some (.sh w), none, none] h = .ok (.sh (.bl true)) [some (.sh w), some (.sh w), none, none] h := by
    refine e_bi (ds_cons (d_e rfl comp) ds_nil) (g_cons rfl g_nil) ?_
    have := all_map (f := fun _ => true) (xs := ws.filter fun _ => true)
    rw [show (List.filter (fun _ => true) ws).all (fun _ => true) = true by simp] at this
    exact this
  have head : evT cf (mkCe [false, false, false, false] h.length) (59 + 1) (.isty [.list, .tuple] (.var 1)) [some (.sh w), some (.sh w), none, none] h = .ok true [some (.sh w), some (.sh w), none, none] h := by
    rcases q with rfl | rfl <;> kernel_rfl
  have two : evT cf (mkCe [false, false, false, false] h.length) (59 + 1) (.or_ [.cmp .ne (.isty [.list] (.var 0)) (.isty [.list] (.var 1)), .cmp .ne (.isty [.tuple] (.var 0)) (.isty [.tuple] (.var 1))]) [some (.sh w), some (.sh w), none, none] h = .ok false [some (.sh w), some (.sh w), none, none] h := by
    rcases q with rfl | rfl <;> kernel_rfl
  have cmp : evE cf (mkCe [false, false, false, false] h.length) (58 + 1) (.cmp .eq (.bi .len [.var 0]) (.bi .len [.var 1])) [some (.sh w), some (.sh w), none, none] h = .ok (.sh (.bl true)) [some (.sh w), some (.sh w), none, none] h :=
    e_cmp (x := .int ws.length) (y := .int ws.length) (d_e rfl (len (n := 57) (.inl rfl))) (d_e rfl (len (n := 57) (.inr rfl))) rfl rfl (by
      show some (decide ((ws.length : Int) = ws.length)) = _
      rw [int_refl])
  have last : exS cf (mkCe [false, false, false, false] h.length) (38 + 1) (.ret (.and_ [.cmp .eq (.bi .len [.var 0]) (.bi .len [.var 1]), .bi .all [.comp [2, 3] (.many [2, 3]) (.zip (.var 0) (.var 1)) none (.call j [.var 2, .var 3] [])]])) [some (.sh w), some (.sh w), none, none] h = .ok (.ret (.sh (.bl true))) [some (.sh w), some (.sh w), none, none] h :=
    s_ret (e_and2 (n := 59) (x := true) (y := true) cmp fun _ => all)
  have first : exS cf (mkCe [false, false, false, false] h.length) (38 + 1) (.if_ (.or_ [.cmp .ne (.isty [.list] (.var 0)) (.isty [.list] (.var 1)), .cmp .ne (.isty [.tuple] (.var 0)) (.isty [.tuple] (.var 1))]) [.ret (.cst (.bl false))] []) [some (.sh w), some (.sh w), none, none] h = .ok .next [some (.sh w), some (.sh w), none, none] h :=
    s_ifF two b_nil
  have whole : exS cf (mkCe [false, false, false, false] h.length) (39 + 1) (.if_ (.isty [.list, .tuple] (.var 1)) [.if_ (.or_ [.cmp .ne (.isty [.list] (.var 0)) (.isty [.list] (.var 1)), .cmp .ne (.isty [.tuple] (.var 0)) (.isty [.tuple] (.var 1))]) [.ret (.cst (.bl false))] [], .ret (.and_ [.cmp .eq (.bi .len [.var 0]) (.bi .len [.var 1]), .bi .all [.comp [2, 3] (.many [2, 3]) (.zip (.var 0) (.var 1)) none (.call j [.var 2, .var 3] [])]])] []) [some (.sh w), some (.sh w), none, none] h = .ok (.ret (.sh (.bl true))) [some (.sh w), some (.sh w), none, none] h :=
    s_ifT head (b_next first (b_ret last))
  unfold kSame
  exact run_ret rfl rfl rfl rfl (b_ret whole)
theorem same_w {Pg : List DefR} {LL : List LamR} {j : Nat} (hj : Pg[j]? = some (kSame j)) : ∀ (d : Nat) (w : W), plainD d w = true → ∀ (n : Nat) (h : HH), d ≤ n → callD Pg LL n (.fn j) [.sh w, .sh w] h = .ok (.sh (.bl true)) [] h
  | 0, w, e, n, h, hn => by cases e
  | d + 1, w, e, n, h, hn => by
    obtain ⟨n, rfl⟩ : ∃ m, n = m + 1 := ⟨n - 1, by omega⟩
    rw [call_fn hj]
    cases w with
    | lst ws =>
      simp only [plainD, plainL, Bool.and_eq_true, List.all_eq_true, decide_eq_true_eq] at e
      exact same_seq (.inl rfl) e.1 fun x hx => same_w hj d x (e.2 x hx) n h (by omega)
    | tup ws =>
      simp only [plainD, plainL, Bool.and_eq_true, List.all_eq_true, decide_eq_true_eq] at e
      exact same_seq (.inr rfl) e.1 fun x hx => same_w hj d x (e.2 x hx) n h (by omega)
    | non => exact runD_ret (s1 := [some (.sh .non), some (.sh .non), none, none]) rfl rfl rfl (by kernel_rfl)
    | bl b => exact runD_ret (s1 := [some (.sh (.bl b)), some (.sh (.bl b)), none, none]) rfl rfl rfl (by cases b <;> kernel_rfl)
    | int i =>
      have z : runD (callD Pg LL n) (kSame j) [.sh (.int i), .sh (.int i)] h = .ok (.sh (.bl (decide (i = i)))) [] h := runD_ret (s1 := [some (.sh (.int i)), some (.sh (.int i)), none, none]) rfl rfl rfl (by kernel_rfl)
      rw [z, int_refl]
    | str s =>
      have hs : flatD 60 (.str s) = true := e
      have t : ∀ {ce} {m : Nat}, evE (callD Pg LL n) ce (m + 1) (.cmp .eq (.var 0) (.var 1)) [some (.sh (.str s)), some (.sh (.str s)), none, none] h = .ok (.sh (.bl true)) [some (.sh (.str s)), some (.sh (.str s)), none, none] h := fun {ce m} =>
        e_cmp (x := .str s) (y := .str s) (d_slot rfl) (d_slot rfl) rfl rfl (by
          show (if flatD 60 (.str s) && flatD 60 (.str s) then some (decide (s = s)) else none) = _
          rw [hs]
          simp)
      have t0 : evT (callD Pg LL n) (mkCe [false, false, false, false] h.length) (59 + 1) (.isty [.list, .tuple] (.var 1)) [some (.sh (.str s)), some (.sh (.str s)), none, none] h = .ok false [some (.sh (.str s)), some (.sh (.str s)), none, none] h := by kernel_rfl
      have t1 : evT (callD Pg LL n) (mkCe [false, false, false, false] h.length) (59 + 1) (.isty [.dict] (.var 1)) [some (.sh (.str s)), some (.sh (.str s)), none, none] h = .ok false [some (.sh (.str s)), some (.sh (.str s)), none, none] h := by kernel_rfl
      have t2 : evT (callD Pg LL n) (mkCe [false, false, false, false] h.length) (59 + 1) (.or_ [.isty [.bool] (.var 1), .isty [.bool] (.var 0)]) [some (.sh (.str s)), some (.sh (.str s)), none, none] h = .ok false [some (.sh (.str s)), some (.sh (.str s)), none, none] h := by kernel_rfl
      have t3 : evT (callD Pg LL n) (mkCe [false, false, false, false] h.length) (59 + 1) (.or_ [.isn false (.var 1), .isn false (.var 0)]) [some (.sh (.str s)), some (.sh (.str s)), none, none] h = .ok false [some (.sh (.str s)), some (.sh (.str s)), none, none] h := by kernel_rfl
      have t4 : evT (callD Pg LL n) (mkCe [false, false, false, false] h.length) (59 + 1) (.or_ [.cmp .ne (.isty [.int] (.var 1)) (.isty [.int] (.var 0)), .cmp .ne (.isty [.str] (.var 1)) (.isty [.str] (.var 0))]) [some (.sh (.str s)), some (.sh (.str s)), none, none] h = .ok false [some (.sh (.str s)), some (.sh (.str s)), none, none] h := by kernel_rfl
      have t5 : evE (callD Pg LL n) (mkCe [false, false, false, false] h.length) (58 + 1) (.not_ (.isty [.list, .tuple, .dict] (.var 0))) [some (.sh (.str s)), some (.sh (.str s)), none, none] h = .ok (.sh (.bl true)) [some (.sh (.str s)), some (.sh (.str s)), none, none] h := by kernel_rfl
      exact runD_ret (s1 := [some (.sh (.str s)), some (.sh (.str s)), none, none]) rfl rfl rfl (b_next (s_ifF (n := 39) t0 rfl) (b_next (s_ifF (n := 39) t1 rfl) (b_next (s_ifF (n := 39) t2 rfl) (b_next (s_ifF (n := 39) t3 rfl) (b_next (s_ifF (n := 39) t4 rfl) (b_ret (s_ret (n := 39) (e_and2 (n := 59) (x := true) (y := true) t5 fun _ => t))))))))
    | _ => cases e
end
end Mini
set_option Elab.async false
set_option linter.all false
set_option maxRecDepth 100000
set_option maxHeartbeats 1000000
/-! Walking: things copied, spoilt, asked twice. -/
namespace Mini
/-- owned through and through -/
def ownD : Nat → O → Prop
  | 0, _ => False
  | n + 1, o => match o with
    | .lst os => os.length < 1000000 ∧ ∀ p ∈ os, ownD n p
    | .tup os => os.length < 1000000 ∧ ∀ p ∈ os, ownD n p
    | .sh w => plainT (n + 1) w = true
    | .dic _ _ _ => False
/-- what spoiling makes of it -/
def spoW : Nat → W → W
  | 0, w => w
  | n + 1, w => match w with
    | .lst ws => .lst (ws.map (spoW n) ++ [late])
    | .tup ws => .tup (ws.map (spoW n))
    | w => w
theorem spoW_plain : ∀ {n : Nat} {w : W}, plainT n w = true → spoW n w = w
  | 0, w, e => by cases e
  | n + 1, w, e => by
    cases w with
    | tup ws =>
      have e : ws.all (plainT n) = true := e
      rw [List.all_eq_true] at e
      show W.tup (ws.map (spoW n)) = _
      rw [List.map_congr_left (f := spoW n) (g := fun x => x) (fun x hx => spoW_plain (e x hx)), List.map_id']
    | lst ws => cases e
    | _ => rfl
theorem toWs_len : ∀ os : List O, (O.toWs os).length = os.length
  | [] => rfl
  | o :: os => by simp [O.toWs, toWs_len os]
theorem toWs_mapE : ∀ os : List O, O.toWs os = os.map O.toW
  | [] => rfl
  | o :: os => by simp [O.toWs, toWs_mapE os]
theorem allO_own {f : O → Option O} {g : W → W} : ∀ {os : List O}, (∀ o ∈ os, ∃ p, f o = some p ∧ p.toW = g o.toW) → ∃ ps, allO f os = some ps ∧ O.toWs ps = (O.toWs os).map g
  | [], _ => ⟨[], rfl, rfl⟩
  | o :: os, h => by
    obtain ⟨p, e1, e2⟩ := h o List.mem_cons_self
    obtain ⟨ps, e3, e4⟩ := allO_own fun o ho => h o (List.mem_cons_of_mem _ ho)
    refine ⟨p :: ps, ?_, ?_⟩
    · unfold allO
      rw [e1, e3]
    · show p.toW :: O.toWs ps = g o.toW :: (O.toWs os).map g
      rw [e2, e4]
theorem spoil_own : ∀ {n : Nat} {o : O}, ownD n o → ∃ p, spoilN n o = some p ∧ p.toW = spoW n o.toW
  | 0, o, h => h.elim
  | n + 1, o, h => by
    cases o with
    | lst os =>
      obtain ⟨hl, h⟩ := h
      obtain ⟨ps, e1, e2⟩ := allO_own (f := spoilN n) (g := spoW n) fun o ho => spoil_own (h o ho)
      refine ⟨.lst (ps ++ [O.sh late]), ?_, ?_⟩
      · show (match allO (spoilN n) os with
          | some ys => if ys.length < line then some (O.lst (ys ++ [O.sh late])) else none
          | none => none) = _
        rw [e1]
        have : ps.length < line := by rw [allO_len e1]; unfold line; omega
        simp [this]
      · show W.lst (O.toWs (ps ++ [O.sh late])) = W.lst ((O.toWs os).map (spoW n) ++ [late])
        rw [← e2, toWs_mapE, toWs_mapE, List.map_append]
        rfl
    | tup os =>
      obtain ⟨hl, h⟩ := h
      obtain ⟨ps, e1, e2⟩ := allO_own (f := spoilN n) (g := spoW n) fun o ho => spoil_own (h o ho)
      refine ⟨.tup ps, ?_, ?_⟩
      · show (match allO (spoilN n) os with
          | some ys => some (O.tup ys)
          | none => none) = _
        rw [e1]
      · show W.tup (O.toWs ps) = W.tup ((O.toWs os).map (spoW n))
        rw [e2]
    | sh w =>
      have h : plainT (n + 1) w = true := h
      refine ⟨.sh w, ?_, (spoW_plain h).symm⟩
      show (if plainT (n + 1) w then some (O.sh w) else none) = _
      rw [if_pos h]
    | dic _ _ _ => exact h.elim
theorem plain_spo {L : Nat} : ∀ {n : Nat} {w : W}, plainL L n w = true → plainL (L + 1) (n + 1) (spoW n w) = true
  | 0, w, e => by cases e
  | n + 1, w, e => by
    cases w with
    | tup ws =>
      simp only [plainL, Bool.and_eq_true, List.all_eq_true, decide_eq_true_eq] at e
      show (decide ((ws.map (spoW n)).length ≤ L + 1) && (ws.map (spoW n)).all (plainL (L + 1) (n + 1))) = true
      simp only [Bool.and_eq_true, List.all_eq_true, decide_eq_true_eq, List.length_map]
      refine ⟨by omega, fun x hx => ?_⟩
      obtain ⟨y, hy, rfl⟩ := List.mem_map.mp hx
      exact plain_spo (e.2 y hy)
    | lst ws =>
      simp only [plainL, Bool.and_eq_true, List.all_eq_true, decide_eq_true_eq] at e
      show (decide ((ws.map (spoW n) ++ [late]).length ≤ L + 1) && (ws.map (spoW n) ++ [late]).all (plainL (L + 1) (n + 1))) = true
      simp only [Bool.and_eq_true, List.all_eq_true, decide_eq_true_eq, List.length_append, List.length_map, List.length_singleton]
      refine ⟨by omega, fun x hx => ?_⟩
      rcases List.mem_append.mp hx with hx | hx
      · obtain ⟨y, hy, rfl⟩ := List.mem_map.mp hx
        exact plain_spo (e.2 y hy)
      · obtain rfl := List.mem_singleton.mp hx
        rfl
    | _ => exact e
/-- what is copied of a plain thing -/
def cpy : Nat → W → O
  | 0, w => .sh w
  | n + 1, w => match w with
    | .lst ws => .lst (ws.map (cpy n))
    | .tup ws => match shs? (ws.map (cpy n)) with
      | some vs => .sh (.tup vs)
      | none => .tup (ws.map (cpy n))
    | w => .sh w
theorem shs_toWs : ∀ {os : List O} {ws : List W}, shs? os = some ws → O.toWs os = ws ∧ os = ws.map .sh
  | [], ws, e => by cases e; exact ⟨rfl, rfl⟩
  | .sh w :: os, ws, e => by
    have e : (match shs? os with
      | some ws => some (w :: ws)
      | none => none) = some ws := e
    split at e
    · rename_i vs ev
      cases e
      obtain ⟨h1, h2⟩ := shs_toWs ev
      refine ⟨?_, by rw [h2]; rfl⟩
      show w :: O.toWs os = _
      rw [h1]
    · cases e
  | .lst _ :: _, _, e => by cases e
  | .tup _ :: _, _, e => by cases e
  | .dic _ _ _ :: _, _, e => by cases e
theorem cpy_toW : ∀ (n : Nat) (w : W), (cpy n w).toW = w
  | 0, w => rfl
  | n + 1, w => by
    have ih : ∀ ws : List W, O.toWs (ws.map (cpy n)) = ws := fun ws => by
      rw [toWs_mapE, List.map_map, List.map_congr_left (f := O.toW ∘ cpy n) (g := fun x => x) (fun x _ => cpy_toW n x), List.map_id']
    cases w with
    | lst ws =>
      show W.lst (O.toWs (ws.map (cpy n))) = _
      rw [ih]
    | tup ws =>
      show (match shs? (ws.map (cpy n)) with
        | some vs => O.sh (.tup vs)
        | none => .tup (ws.map (cpy n))).toW = _
      split
      · rename_i vs ev
        obtain ⟨h1, _⟩ := shs_toWs ev
        rw [ih] at h1
        rw [h1]
        rfl
      · show W.tup (O.toWs (ws.map (cpy n))) = _
        rw [ih]
    | _ => rfl
theorem cpy_own {L : Nat} (hL : L < 1000000) : ∀ {n : Nat} {w : W}, plainL L n w = true → ownD n (cpy n w)
  | 0, w, e => by cases e
  | n + 1, w, e => by
    cases w with
    | lst ws =>
      simp only [plainL, Bool.and_eq_true, List.all_eq_true, decide_eq_true_eq] at e
      refine ⟨by simp; omega, fun p hp => ?_⟩
      obtain ⟨x, hx, rfl⟩ := List.mem_map.mp hp
      exact cpy_own hL (e.2 x hx)
    | tup ws =>
      simp only [plainL, Bool.and_eq_true, List.all_eq_true, decide_eq_true_eq] at e
      show ownD (n + 1) (match shs? (ws.map (cpy n)) with
        | some vs => O.sh (.tup vs)
        | none => .tup (ws.map (cpy n)))
      have ih : ∀ p ∈ ws.map (cpy n), ownD n p := fun p hp => by
        obtain ⟨x, hx, rfl⟩ := List.mem_map.mp hp
        exact cpy_own hL (e.2 x hx)
      split
      · rename_i vs ev
        obtain ⟨_, h2⟩ := shs_toWs ev
        show vs.all (plainT n) = true
        rw [List.all_eq_true]
        intro x hx
        have hm : O.sh x ∈ ws.map (cpy n) := by rw [h2]; exact List.mem_map.mpr ⟨x, hx, rfl⟩
        have := ih _ hm
        cases n with
        | zero => exact this.elim
        | succ n => exact this
      · exact ⟨by simp; omega, ih⟩
    | non => rfl
    | bl b => rfl
    | int i => rfl
    | str s => rfl
    | _ => cases e
end Mini
set_option Elab.async false
set_option linter.all false
set_option maxRecDepth 100000
set_option maxHeartbeats 1000000
/-! Walking: copied, asked twice. -/
namespace Mini
section
variable {cf : CF} {ce : List (Option Nat)} {n : Nat} {s s1 s2 : SL} {h h1 h2 : HH}
theorem e_shr {a : ME} {o : O} (e1 : evE cf ce n a s h = .ok o s1 h1) : evE cf ce (n + 1) (.shr a) s h = .ok (.sh o.toW) s1 h1 := by
  show (evE cf ce n a s h).bind _ = _
  rw [e1]
  rfl
theorem e_callv0 {g : ME} {l : Nat} {cs : List Nat} {o : O} {s' : SL} (e1 : evE cf ce n g s h = .ok (.sh (.clo l cs)) s1 h1) (e2 : pubC 0 ce s1 h1 = some ([], s1, h1)) (e3 : cf (.clo l cs) [] h1 = .ok o s' h2) : evE cf ce (n + 1) (.callv g []) s h = .ok o s1 h2 := by
  show (evE cf ce n g s h).bind _ = _
  rw [e1, R.bind_ok]
  show (evL (evE cf ce n) [] s1 h1).bind _ = _
  rw [l_nil, R.bind_ok]
  exact callC_eq e2 e3
theorem s_spl {i j : Nat} {o o' : O} {s' : SL} {h' : HH} (e0 : s[i]? = some (some o)) (e1 : cf (.spl j) [o] h = .ok o' s' h') : exS cf ce (n + 1) (.spl j i) s h = .ok .next (s.set i (some o')) h := by
  show (match s[i]? with
      | some (some o) => (match cf (.spl j) [o] h with
        | .ok o' _ _ => R.ok Fl.next (s.set i (some o')) h
        | _ => .fail)
      | _ => .fail) = _
  simp only [e0, e1]
end
section
variable {cf : CF} {h : HH}
def kCopied (j : Nat) (jk : List MS) : DefR := ⟨1, 4, [false, false, false, false], [.if_ (.isty [.dict] (.var 0)) jk [], .set 1 (.ite (.isty [.list, .tuple] (.var 0)) (.comp [2] (.one 2) (.seq (.var 0)) none (.call j [.var 2] [])) (.var 0)), .ret (.ite (.isty [.tuple] (.var 0)) (.btup (.mv 1)) (.mv 1))], none⟩
theorem copied_seq {j d : Nat} {jk : List MS} {w : W} {ws : List W} (q : IsSq w ws) (hl : ws.length ≤ 1000000) (ih : ∀ x ∈ ws, cf (.fn j) [.sh x] h = .ok (cpy d x) [] h) : runD cf (kCopied j jk) [.sh w] h = .ok (cpy (d + 1) w) [] h := by
  have comp : ∀ {m}, evE cf [none, none, none, none] (m + 20) (.comp [2] (.one 2) (.seq (.var 0)) none (.call j [.var 2] [])) [some (.sh w), none, none, none] h = .ok (.lst (ws.map (cpy d))) [some (.sh w), none, none, none] h := by
    intro m
    have it : itE (evE cf [none, none, none, none] (m + 19)) (.seq (.var 0)) [some (.sh w), none, none, none] h = .ok ⟨ws.map fun x => x, []⟩ [some (.sh w), none, none, none] h := by
      rw [List.map_id']
      exact i_seq (e_var rfl) (lk_sq q h)
    have z := e_comp1 (j := 2) (p := fun _ => true) (g := cpy d) (ifs := none) (elt := .call j [.var 2] []) it rfl (by unfold line; omega) (fun x _ => t_none) fun x hx _ => e_call (l_cons (e_var rfl) l_nil) rfl (ih x hx)
    rw [show (ws.filter fun _ => true) = ws by simp] at z
    exact z
  have t0 : evT cf [none, none, none, none] 60 (.isty [.dict] (.var 0)) [some (.sh w), none, none, none] h = .ok false [some (.sh w), none, none, none] h := by
    rcases q with rfl | rfl <;> kernel_rfl
  have t1 : evT cf [none, none, none, none] 59 (.isty [.list, .tuple] (.var 0)) [some (.sh w), none, none, none] h = .ok true [some (.sh w), none, none, none] h := by
    rcases q with rfl | rfl <;> kernel_rfl
  have st : exS cf [none, none, none, none] (39 + 1) (.set 1 (.ite (.isty [.list, .tuple] (.var 0)) (.comp [2] (.one 2) (.seq (.var 0)) none (.call j [.var 2] [])) (.var 0))) [some (.sh w), none, none, none] h = .ok .next [some (.sh w), some (.lst (ws.map (cpy d))), none, none] h :=
    s_set (e_iteT (n := 59) t1 (comp (m := 39)))
  unfold kCopied
  rcases q with rfl | rfl
  · have t2 : evT cf [none, none, none, none] 59 (.isty [.tuple] (.var 0)) [some (.sh (.lst ws)), some (.lst (ws.map (cpy d))), none, none] h = .ok false [some (.sh (.lst ws)), some (.lst (ws.map (cpy d))), none, none] h := by kernel_rfl
    exact run_ret rfl rfl rfl rfl (b_next (s_ifF t0 b_nil) (b_next st (b_ret (s_ret (e_iteF (n := 59) t2 (e_mv (n := 58) rfl))))))
  · have t2 : evT cf [none, none, none, none] 59 (.isty [.tuple] (.var 0)) [some (.sh (.tup ws)), some (.lst (ws.map (cpy d))), none, none] h = .ok true [some (.sh (.tup ws)), some (.lst (ws.map (cpy d))), none, none] h := by kernel_rfl
    refine run_ret rfl rfl rfl rfl (b_next (s_ifF t0 b_nil) (b_next st (b_ret (s_ret (e_iteT (n := 59) t2 (e_btup (n := 58) (e_mv (n := 57) rfl) ?_))))))
    show (match shs? (ws.map (cpy d)) with
      | some ws => some (O.sh (.tup ws))
      | none => some (.tup (ws.map (cpy d)))) = some (match shs? (ws.map (cpy d)) with
      | some vs => O.sh (.tup vs)
      | none => .tup (ws.map (cpy d)))
    cases shs? (ws.map (cpy d)) <;> rfl
theorem copied_w {Pg : List DefR} {LL : List LamR} {j : Nat} {jk : List MS} {L : Nat} (hL : L ≤ 1000000) (hj : Pg[j]? = some (kCopied j jk)) : ∀ (d : Nat) (w : W), plainL L d w = true → ∀ (n : Nat) (h : HH), d ≤ n → callD Pg LL n (.fn j) [.sh w] h = .ok (cpy d w) [] h
  | 0, w, e, n, h, hn => by cases e
  | d + 1, w, e, n, h, hn => by
    obtain ⟨n, rfl⟩ : ∃ m, n = m + 1 := ⟨n - 1, by omega⟩
    rw [call_fn hj]
    cases w with
    | lst ws =>
      simp only [plainL, Bool.and_eq_true, List.all_eq_true, decide_eq_true_eq] at e
      exact copied_seq (.inl rfl) (by omega) fun x hx => copied_w hL hj d x (e.2 x hx) n h (by omega)
    | tup ws =>
      simp only [plainL, Bool.and_eq_true, List.all_eq_true, decide_eq_true_eq] at e
      exact copied_seq (.inr rfl) (by omega) fun x hx => copied_w hL hj d x (e.2 x hx) n h (by omega)
    | non => exact run_ret (s1 := [some (.sh .non), none, none, none]) rfl rfl rfl rfl (by kernel_rfl)
    | bl b => exact run_ret (s1 := [some (.sh (.bl b)), none, none, none]) rfl rfl rfl rfl (by kernel_rfl)
    | int i => exact run_ret (s1 := [some (.sh (.int i)), none, none, none]) rfl rfl rfl rfl (by kernel_rfl)
    | str s => exact run_ret (s1 := [some (.sh (.str s)), none, none, none]) rfl rfl rfl rfl (by kernel_rfl)
    | _ => cases e
end
end Mini
set_option Elab.async false
set_option linter.all false
set_option maxRecDepth 100000
set_option maxHeartbeats 1000000
/-! Walking: asked twice. -/
namespace Mini
theorem plainT_up : ∀ {n : Nat} {w : W}, plainT n w = true → plainT (n + 1) w = true
  | 0, w, e => by cases e
  | n + 1, w, e => by
    cases w with
    | tup ws =>
      have e : ws.all (plainT n) = true := e
      rw [List.all_eq_true] at e
      show ws.all (plainT (n + 1)) = true
      rw [List.all_eq_true]
      exact fun x hx => plainT_up (e x hx)
    | lst ws => cases e
    | _ => exact e
theorem own_up : ∀ {n : Nat} {o : O}, ownD n o → ownD (n + 1) o
  | 0, o, h => h.elim
  | n + 1, o, h => by
    cases o with
    | lst os => exact ⟨h.1, fun p hp => own_up (h.2 p hp)⟩
    | tup os => exact ⟨h.1, fun p hp => own_up (h.2 p hp)⟩
    | sh w => exact plainT_up (show plainT (n + 1) w = true from h)
    | dic _ _ _ => exact h.elim
theorem own_le {n m : Nat} (h : n ≤ m) {o : O} (e : ownD n o) : ownD m o := by
  induction m with
  | zero =>
    obtain rfl : n = 0 := by omega
    exact e
  | succ m ih =>
    by_cases q : n = m + 1
    · subst q; exact e
    · exact own_up (ih (by omega))
theorem spoW_up {L : Nat} : ∀ {n : Nat} {w : W}, plainL L n w = true → spoW (n + 1) w = spoW n w
  | 0, w, e => by cases e
  | n + 1, w, e => by
    cases w with
    | tup ws =>
      simp only [plainL, Bool.and_eq_true, List.all_eq_true, decide_eq_true_eq] at e
      show W.tup (ws.map (spoW (n + 1))) = W.tup (ws.map (spoW n))
      rw [List.map_congr_left fun x hx => spoW_up (e.2 x hx)]
    | lst ws =>
      simp only [plainL, Bool.and_eq_true, List.all_eq_true, decide_eq_true_eq] at e
      show W.lst (ws.map (spoW (n + 1)) ++ [late]) = W.lst (ws.map (spoW n) ++ [late])
      rw [List.map_congr_left fun x hx => spoW_up (e.2 x hx)]
    | _ => rfl
theorem spoW_le {L n m : Nat} (h : n ≤ m) {w : W} (e : plainL L n w = true) : spoW m w = spoW n w := by
  induction m with
  | zero =>
    obtain rfl : n = 0 := by omega
    rfl
  | succ m ih =>
    by_cases q : n = m + 1
    · subst q; rfl
    · rw [spoW_up (plain_le (by omega : n ≤ m) e), ih (by omega)]
def kTwice (js jsp jc : Nat) : DefR := ⟨3, 5, [false, false, false, false, false], [.par [3, 4] [.callv (.var 1) [], .call jc [.var 0] []], .if_ (.not_ (.bcall js [3, 0])) [.ret (.cst (.bl false))] [], .spl jsp 3, .spl jsp 4, .ret (.call js [.shr (.lst [.mv 3, .callv (.var 2) [], .callv (.var 1) []]), .shr (.lst [.mv 4, .var 0, .var 0])] [])], none⟩
theorem spl_D {Pg : List DefR} {LL : List LamR} {n j : Nat} {o : O} {h : HH} : callD Pg LL n (.spl j) [o] h = ofO (spoilN n o) [] h := by
  cases n with
  | zero => rfl
  | succ n => rfl
/-- asking twice: what is told is owned, both times the same -/
theorem twice_w {Pg : List DefR} {LL : List LamR} {js jsp jc : Nat} {jk : List MS} {L d n : Nat} {due : W} {h : HH} {l1 l2 : Nat} {c1 c2 : List Nat} {o1 o2 : O} {s1 s2 : SL} (hs : Pg[js]? = some (kSame js)) (hc : Pg[jc]? = some (kCopied jc jk)) (hL : L < 999999) (hp : plainL L d due = true) (hn : d + 2 ≤ n)
    (f1 : callD Pg LL n (.clo l1 c1) [] h = .ok o1 s1 h) (f2 : callD Pg LL n (.clo l2 c2) [] h = .ok o2 s2 h) (w1 : o1.toW = due) (w2 : o2.toW = due) (own1 : ownD d o1) : runD (callD Pg LL n) (kTwice js jsp jc) [.sh due, .sh (.clo l1 c1), .sh (.clo l2 c2)] h = .ok (.sh (.bl true)) [] h := by
  obtain ⟨p, e1, e2⟩ := spoil_own (own_le (by omega : d ≤ n) own1)
  obtain ⟨c, e3, e4⟩ := spoil_own (own_le (by omega : d ≤ n) (cpy_own (by omega : L < 1000000) hp))
  rw [w1, spoW_le (by omega : d ≤ n) hp] at e2
  rw [cpy_toW, spoW_le (by omega : d ≤ n) hp] at e4
  have hd : 1 ≤ d := by
    cases d with
    | zero => cases hp
    | succ d => omega
  have cop := copied_w (LL := LL) (by omega : L ≤ 1000000) hc d due hp n h (by omega)
  have sam := same_w (LL := LL) hs d due (plain_of (by omega) hp) n (hide h) (by omega)
  have r1 : exS (callD Pg LL n) [none, none, none, none, none] (39 + 1) (.par [3, 4] [.callv (.var 1) [], .call jc [.var 0] []]) [some (.sh due), some (.sh (.clo l1 c1)), some (.sh (.clo l2 c2)), none, none] h =
      .ok .next [some (.sh due), some (.sh (.clo l1 c1)), some (.sh (.clo l2 c2)), some o1, some (cpy d due)] h :=
    s_par (l_cons (e_callv0 (n := 59) (e_var (n := 58) rfl) rfl f1) (l_cons (e_call (n := 59) (l_cons (e_var (n := 58) rfl) l_nil) rfl cop) l_nil)) rfl
  have r2 : exS (callD Pg LL n) [none, none, none, none, none] (39 + 1) (.if_ (.not_ (.bcall js [3, 0])) [.ret (.cst (.bl false))] []) [some (.sh due), some (.sh (.clo l1 c1)), some (.sh (.clo l2 c2)), some o1, some (cpy d due)] h =
      .ok .next [some (.sh due), some (.sh (.clo l1 c1)), some (.sh (.clo l2 c2)), some o1, some (cpy d due)] h := by
    refine s_ifF (t_not (n := 59) (b := true) (t_e (n := 58) rfl (v_d (d_e rfl (e_bcall (n := 57) (ws := [due, due]) (w := .bl true) ?_ sam ?_)) rfl) rfl)) b_nil
    · show some [o1.toW, due] = _
      rw [w1]
    · simp [flat0, hide]
  have r3 : exS (callD Pg LL n) [none, none, none, none, none] (39 + 1) (.spl jsp 3) [some (.sh due), some (.sh (.clo l1 c1)), some (.sh (.clo l2 c2)), some o1, some (cpy d due)] h =
      .ok .next [some (.sh due), some (.sh (.clo l1 c1)), some (.sh (.clo l2 c2)), some p, some (cpy d due)] h :=
    s_spl (o' := p) rfl (by rw [spl_D, e1]; rfl)
  have r4 : exS (callD Pg LL n) [none, none, none, none, none] (39 + 1) (.spl jsp 4) [some (.sh due), some (.sh (.clo l1 c1)), some (.sh (.clo l2 c2)), some p, some (cpy d due)] h =
      .ok .next [some (.sh due), some (.sh (.clo l1 c1)), some (.sh (.clo l2 c2)), some p, some c] h :=
    s_spl (o' := c) rfl (by rw [spl_D, e3]; rfl)
  have pl : plainL 1000000 (d + 2) (.lst [spoW d due, due, due]) = true := by
    have a := plain_of (L' := 1000000) (by omega) (plain_spo hp)
    have b := plain_of (L' := 1000000) (by omega) (plain_le (by omega : d ≤ d + 1) hp)
    show (decide (3 ≤ 1000000) && [spoW d due, due, due].all (plainL 1000000 (d + 1))) = true
    simp [a, b]
  have sam2 := same_w (LL := LL) hs (d + 2) _ pl n h hn
  have r5 : exS (callD Pg LL n) [none, none, none, none, none] (39 + 1) (.ret (.call js [.shr (.lst [.mv 3, .callv (.var 2) [], .callv (.var 1) []]), .shr (.lst [.mv 4, .var 0, .var 0])] [])) [some (.sh due), some (.sh (.clo l1 c1)), some (.sh (.clo l2 c2)), some p, some c] h =
      .ok (.ret (.sh (.bl true))) [some (.sh due), some (.sh (.clo l1 c1)), some (.sh (.clo l2 c2)), none, none] h := by
    refine s_ret (e_call (n := 59) (l_cons (e_shr (n := 58) (e_lst (n := 57) (l_cons (e_mv (n := 56) rfl) (l_cons (e_callv0 (n := 56) (e_var (n := 55) rfl) rfl f2) (l_cons (e_callv0 (n := 56) (e_var (n := 55) rfl) rfl f1) l_nil))))) (l_cons (e_shr (n := 58) (e_lst (n := 57) (l_cons (e_mv (n := 56) rfl) (l_cons (e_var (n := 56) rfl) (l_cons (e_var (n := 56) rfl) l_nil))))) l_nil)) rfl (s' := []) ?_)
    show callD Pg LL n (.fn js) [.sh (.lst [p.toW, o2.toW, o1.toW]), .sh (.lst [c.toW, due, due])] h = _
    rw [e2, e4, w1, w2]
    exact sam2
  unfold kTwice
  exact run_ret rfl rfl rfl rfl (b_next r1 (b_next r2 (b_next r3 (b_next r4 (b_ret r5)))))
end Mini
set_option Elab.async false
set_option linter.all false
set_option maxRecDepth 100000
set_option maxHeartbeats 1000000
/-! Walking: draws. -/
namespace Mini
/-- the stream's numbers and counters -/
structure Qs where
  ns : List Int
  c : Int
  t : Int
  x : Int
/-- so many draws more are fine -/
def Qs.ok (q : Qs) (m : Nat) : Prop := 0 ≤ q.c ∧ (0 ≤ q.t ∧ q.t + m ≤ 1000000000) ∧ (0 ≤ q.x ∧ q.x < 2147483647) ∧ q.ns.length ≤ 63
theorem Qs.ok.less {q : Qs} {m k : Nat} (h : q.ok m) (e : k ≤ m) : q.ok k := ⟨h.1, ⟨h.2.1.1, by have := h.2.1.2; omega⟩, h.2.2⟩
abbrev hq (h : HH) (i j : Nat) (q : Qs) : HH := hs h i j (intsW q.ns) [.hp j, .int q.c, .int q.t, .int q.x]
section
variable {Pg : List DefR} {LL : List LamR} {h : HH} {i j jd : Nat}
/-- a draw -/
theorem draw_q (hj : Pg[jd]? = some dDraw) (T : Two h i j) {q : Qs} {m k : Nat} (ok : q.ok (m + 1)) (hk : 0 < k ∧ k < 1073741824) : ∃ (r : Nat) (q' : Qs), (∀ n, callD Pg LL (n + 1) (.fn jd) [.sh (.hp i), .sh (.int k)] (hq h i j q) = .ok (.sh (nW r)) [] (hq h i j q')) ∧ r < k ∧ q'.ok m := by
  obtain ⟨r, ns', c', x', e, hr, hc, hx, hl⟩ := draw_eq T q.ns q.c q.t q.x (k : Int) ok.1 ⟨ok.2.1.1, by have := ok.2.1.2; omega⟩ ok.2.2.1 (by omega) ok.2.2.2
  obtain ⟨r, rfl⟩ : ∃ a : Nat, r = a := ⟨r.toNat, by omega⟩
  refine ⟨r, ⟨ns', c', q.t + 1, x'⟩, fun n => ?_, by omega, hc, ⟨by have := ok.2.1.1; show 0 ≤ q.t + 1; omega, by have := ok.2.1.2; show q.t + 1 + m ≤ _; omega⟩, hx, hl⟩
  rw [call_fn hj]
  exact e _
theorem draws_D (hj : Pg[jd]? = some dDraw) (n : Nat) : Draws jd (callD Pg LL (n + 1)) := ⟨callD Pg LL n, fun os h => call_fn hj os h⟩
/-- things mixed -/
theorem mixed_q {jm : Nat} (hj : Pg[jd]? = some dDraw) (hm : Pg[jm]? = some (dMixed jd)) (T : Two h i j) {q : Qs} {m : Nat} (os : List O) (ok : q.ok (m + os.length)) (hl : os.length < 100000) : ∃ (fs : List W) (q' : Qs), (∀ n, callD Pg LL (n + 2) (.fn jm) [.sh (.hp i), .lst os] (hq h i j q) = .ok (.lst (fs.map .sh)) [] (hq h i j q')) ∧ fs.Perm (O.toWs os) ∧ q'.ok m := by
  have el := toWs_len os
  obtain ⟨fs, ns', c', x', e, p, r⟩ := mixed_eq (draws_ok jd) T os (O.toWs os) q.ns q.c q.t q.x rfl (by omega) ok.1 ⟨ok.2.1.1, by have := ok.2.1.2; omega⟩ ok.2.2.1 ok.2.2.2
  refine ⟨fs, ⟨ns', c', q.t + (O.toWs os).length, x'⟩, fun n => ?_, p, r.1, ⟨by have := ok.2.1.1; show 0 ≤ q.t + _; omega, by have := ok.2.1.2; show q.t + _ + m ≤ _; omega⟩, r.2⟩
  rw [call_fn hm]
  exact e _ (draws_D hj n)
theorem natsW_perm {ws : List W} {v : List Nat} (p : ws.Perm (natsW v)) : ∃ u : List Nat, ws = natsW u ∧ u.Perm v := by
  generalize hz : natsW v = zs at p
  induction p generalizing v with
  | nil =>
    cases v with
    | nil => exact ⟨[], rfl, .nil⟩
    | cons => cases hz
  | cons x p ih =>
    cases v with
    | nil => cases hz
    | cons u us =>
      injection hz with h1 h2
      obtain ⟨vs, rfl, q⟩ := ih h2
      exact ⟨u :: vs, by rw [← h1]; rfl, .cons u q⟩
  | swap x y l =>
    match v, hz with
    | a :: b :: us, hz =>
      injection hz with h1 h2
      injection h2 with h2 h3
      exact ⟨b :: a :: us, by rw [← h1, ← h2, ← h3]; rfl, List.Perm.swap a b us⟩
  | trans p q ih1 ih2 =>
    obtain ⟨vs, rfl, q2⟩ := ih2 hz
    obtain ⟨vs2, rfl, q3⟩ := ih1 rfl
    exact ⟨vs2, rfl, q3.trans q2⟩
/-- an order of a size -/
theorem order_q {jm jo : Nat} (hj : Pg[jd]? = some dDraw) (hm : Pg[jm]? = some (dMixed jd)) (ho : Pg[jo]? = some (dOrder jm)) (T : Two h i j) {q : Qs} {m k : Nat} (ok : q.ok (m + k)) (hk : k < 100000) :
    ∃ (v : List Nat) (q' : Qs), (∀ n, callD Pg LL (n + 3) (.fn jo) [.sh (.hp i), .sh (.int k)] (hq h i j q) = .ok (.lst ((natsW v).map .sh)) [] (hq h i j q')) ∧ IsOrd v ∧ v.length = k ∧ q'.ok m := by
  obtain ⟨fs, ns', c', x', e, p, r⟩ := order_eq (jm := jm) (draws_ok jd) T k q.ns q.c q.t q.x hk ok.1 ⟨ok.2.1.1, by have := ok.2.1.2; omega⟩ ok.2.2.1 ok.2.2.2
  rw [range0, show ((k : Nat) : Int).toNat = k from rfl] at p
  obtain ⟨v, rfl, pv⟩ := natsW_perm p
  have hl : v.length = k := by simpa using pv.length_eq
  refine ⟨v, ⟨ns', c', q.t + k, x'⟩, fun n => ?_, ?_, hl, r.1, ⟨by have := ok.2.1.1; show 0 ≤ q.t + _; omega, by have := ok.2.1.2; show q.t + _ + m ≤ _; omega⟩, r.2⟩
  · rw [call_fn ho]
    exact e _ _ (draws_D hj n) fun os h => call_fn hm os h
  · unfold IsOrd
    rw [hl]
    exact pv
/-- things loosened: lists for tuples -/
inductive Lo : W → W → Prop where
  | same {w : W} : (∀ xs, ¬ IsSq w xs) → Lo w w
  | sq {w u : W} {xs ys : List W} : IsSq w xs → IsSq u ys → F2 Lo xs ys → Lo w u
def cnt : Nat → W → Nat
  | 0, _ => 0
  | n + 1, w => match w with
    | .lst ws => (ws.map (cnt n)).sum + 1
    | .tup ws => (ws.map (cnt n)).sum + 1
    | _ => 0
def kLoose (j jd : Nat) : DefR := ⟨2, 4, [false, false, false, false], [.if_ (.not_ (.isty [.list, .tuple] (.var 1))) [.ret (.var 1)] [], .set 2 (.comp [3] (.one 3) (.seq (.var 1)) none (.call j [.var 0, .var 3] [])), .ret (.ite (.cmp .eq (.call jd [.var 0, .cst (.int 2)] []) (.cst (.int 0))) (.btup (.mv 2)) (.mv 2))], none⟩
theorem F2.imp2 {α β : Type} {p q : α → β → Prop} (h : ∀ a b, p a b → q a b) : ∀ {as : List α} {bs : List β}, F2 p as bs → F2 q as bs
  | _, _, .nil => .nil
  | _, _, .cons a b => .cons (h _ _ a) (F2.imp2 h b)
/-- a comprehension whose parts draw -/
theorem compQ {C : CF → Prop} {elt : CF → SL → HH → R O} {P : W → O → Prop} {c : W → Nat} {S : Option W → SL} {own : List Nat} {tg : Tg} (hset : ∀ z x, setTg (wipe (S z) own) tg x = some (S (some x))) :
    ∀ (ws : List W), (∀ x ∈ ws, ∀ (q : Qs) (m : Nat), q.ok (m + c x) → ∃ o q', (∀ cf, C cf → elt cf (S (some x)) (hq h i j q) = .ok o (S (some x)) (hq h i j q')) ∧ P x o ∧ q'.ok m) → ∀ (z : Option W) (acc : List O) (q : Qs) (m : Nat), q.ok (m + (ws.map c).sum) →
    ∃ os q' z', (∀ cf, C cf → ∀ nn, compL tg own [] (testE (evT cf [] nn) none) (elt cf) ws acc (S z) (hq h i j q) = .ok (acc ++ os) (S z') (hq h i j q')) ∧ F2 P ws os ∧ q'.ok m
  | [], _, z, acc, q, m, ok => ⟨[], q, z, fun cf _ nn => by simp [compL, guard], .nil, ok⟩
  | x :: ws, he, z, acc, q, m, ok => by
    have ok' : q.ok (m + (ws.map c).sum + c x) := ok.less (by simp; omega)
    obtain ⟨o, q1, e1, p1, ok1⟩ := he x List.mem_cons_self q _ ok'
    obtain ⟨os, q2, z2, e2, p2, ok2⟩ := compQ hset ws (fun y hy => he y (List.mem_cons_of_mem _ hy)) (some x) (acc ++ [o]) q1 m ok1
    refine ⟨o :: os, q2, z2, fun cf hC nn => ?_, .cons p1 p2, ok2⟩
    have e2 := e2 cf hC nn
    rw [List.append_assoc] at e2
    unfold compL
    simp only [guard, List.all_nil, if_true, hset, t_none, R.bind_ok, e1 cf hC]
    exact e2
theorem tupO_lst (os : List O) : ∃ o, tupO (.lst os) = some o := by
  cases e : shs? os with
  | none => exact ⟨.tup os, by simp [tupO, e]⟩
  | some ws => exact ⟨.sh (.tup ws), by simp [tupO, e]⟩
theorem tupO_toW (os : List O) : ((tupO (.lst os)).getD (.sh .non)).toW = .tup (O.toWs os) := by
  cases e : shs? os with
  | none => simp [tupO, e, O.toW]
  | some ws => simp [tupO, e, O.toW, (shs_toWs e).1]
theorem loose_q {jl : Nat} {L : Nat} (hL : L ≤ 1000000) (hj : Pg[jd]? = some dDraw) (hl : Pg[jl]? = some (kLoose jl jd)) (T : Two h i j) : ∀ (d : Nat) (w : W) (q : Qs) (m : Nat), plainL L d w = true → q.ok (m + cnt d w) →
    ∃ o q', (∀ n, d + 1 ≤ n → callD Pg LL n (.fn jl) [.sh (.hp i), .sh w] (hq h i j q) = .ok o [] (hq h i j q')) ∧ (Lo w o.toW ∧ plainL L d o.toW = true) ∧ q'.ok m
  | 0, w, q, m, e, _ => by cases e
  | d + 1, w, q, m, e, ok => by
    have scalar : (∀ xs, ¬ IsSq w xs) → isTyW [.list, .tuple] w = some false → vw (hq h i j q) w = w → cnt (d + 1) w = 0 → ∃ o q', (∀ n, d + 1 + 1 ≤ n → callD Pg LL n (.fn jl) [.sh (.hp i), .sh w] (hq h i j q) = .ok o [] (hq h i j q')) ∧ (Lo w o.toW ∧ plainL L (d + 1) o.toW = true) ∧ q'.ok m := fun h1 h2 h3 h4 => by
      refine ⟨.sh w, q, fun n hn => ?_, ⟨.same h1, e⟩, ok.less (by omega)⟩
      obtain ⟨n, rfl⟩ : ∃ m, n = m + 1 := ⟨n - 1, by omega⟩
      rw [call_fn hl]
      have t0 : evT (callD Pg LL n) [none, none, none, none] (59 + 1) (.not_ (.isty [.list, .tuple] (.var 1))) [some (.sh (.hp i)), some (.sh w), none, none] (hq h i j q) = .ok true [some (.sh (.hp i)), some (.sh w), none, none] (hq h i j q) :=
        t_not (b := false) (t_e (n := 58) rfl (v_d (d_e rfl (e_isty (n := 57) (v_d (d_slot (pk_sh (w := w) rfl)) (by show some (vw (hq h i j q) w) = _; rw [h3])) h2)) rfl) rfl)
      unfold kLoose
      exact run_ret rfl rfl rfl rfl (b_ret (s_ifT t0 (b_ret (s_ret (n := 38) (e_var (n := 59) rfl)))))
    have seq : ∀ {ws : List W}, IsSq w ws → ws.length ≤ L → (∀ x ∈ ws, plainL L d x = true) → q.ok (m + 1 + (ws.map (cnt d)).sum) → ∃ o q', (∀ n, d + 1 + 1 ≤ n → callD Pg LL n (.fn jl) [.sh (.hp i), .sh w] (hq h i j q) = .ok o [] (hq h i j q')) ∧ (Lo w o.toW ∧ plainL L (d + 1) o.toW = true) ∧ q'.ok m := fun {ws} hw hlen hp ok => by
      obtain ⟨os, q1, z1, e1, p1, ok1⟩ := compQ (C := fun cf => ∃ n, d + 1 ≤ n ∧ cf = callD Pg LL n) (elt := fun cf => evE cf [] 59 (.call jl [.var 0, .var 3] [])) (P := fun x o => Lo x o.toW ∧ plainL L d o.toW = true) (c := cnt d) (S := fun z => [some (.sh (.hp i)), some (.sh w), none, z.map .sh]) (own := [3]) (tg := .one 3) (h := h) (i := i) (j := j) (fun z x => rfl) ws
        (fun x hx q m ok => by
          obtain ⟨o, q', e, p, ok'⟩ := loose_q hL hj hl T d x q m (hp x hx) ok
          refine ⟨o, q', fun cf ⟨n, hn, hc⟩ => ?_, p, ok'⟩
          subst hc
          exact e_call (n := 58) (l_cons (e_var (n := 57) rfl) (l_cons (e_var (n := 57) rfl) l_nil)) rfl (e n hn)) none [] q (m + 1) ok
      obtain ⟨r, q2, e2, hr, ok2⟩ := draw_q (LL := LL) hj T (k := 2) ok1 (by omega)
      have pl : ∀ x ∈ O.toWs os, plainL L d x = true := by
        have go : ∀ {as : List W} {bs : List O}, F2 (fun x o => Lo x o.toW ∧ plainL L d o.toW = true) as bs → ∀ x ∈ O.toWs bs, plainL L d x = true := by
          intro as bs f
          induction f with
          | nil => intro x hx; cases hx
          | cons a b ih =>
            intro x hx
            rcases List.mem_cons.mp hx with rfl | hx
            · exact a.2
            · exact ih x hx
        exact go p1
      have lo : F2 Lo ws (O.toWs os) := by
        have go : ∀ {as : List W} {bs : List O}, F2 (fun x o => Lo x o.toW ∧ plainL L d o.toW = true) as bs → F2 Lo as (O.toWs bs) := by
          intro as bs f
          induction f with
          | nil => exact .nil
          | cons a b ih => exact .cons a.1 ih
        exact go p1
      have hlo : (O.toWs os).length = ws.length := lo.len.symm
      have st0 : ∀ (n : Nat), d + 1 ≤ n → exS (callD Pg LL n) [none, none, none, none] (39 + 1) (.set 2 (.comp [3] (.one 3) (.seq (.var 1)) none (.call jl [.var 0, .var 3] []))) [some (.sh (.hp i)), some (.sh w), none, none] (hq h i j q) = .ok .next [some (.sh (.hp i)), some (.sh w), some (.lst os), none] (hq h i j q1) := fun n hn => by
        have z := e1 (callD Pg LL n) ⟨n, hn, rfl⟩ 59
        have c := e_comp (cf := callD Pg LL n) (ce := [none, none, none, none]) (n := 59) (own := [3]) (tg := .one 3) (it := .seq (.var 1)) (ifs := none) (elt := .call jl [.var 0, .var 3] []) (s := [some (.sh (.hp i)), some (.sh w), none, none]) (h := hq h i j q) (i_seq (e_var (n := 58) rfl) (lk_sq hw _)) rfl (by show ws.length ≤ line; unfold line; omega) z
        refine s_set (s1 := [some (.sh (.hp i)), some (.sh w), none, none]) ?_
        rw [List.nil_append] at c
        exact c
      have t0 : ∀ (n : Nat), evT (callD Pg LL n) [none, none, none, none] (59 + 1) (.not_ (.isty [.list, .tuple] (.var 1))) [some (.sh (.hp i)), some (.sh w), none, none] (hq h i j q) = .ok false [some (.sh (.hp i)), some (.sh w), none, none] (hq h i j q) := fun n =>
        t_not (b := true) (t_e (n := 58) rfl (v_d (d_e rfl (e_isty (n := 57) (v_d (d_slot (pk_sh (w := w) rfl)) (by show some (vw (hq h i j q) w) = _; rw [vw_sq hw])) (isT_sq hw))) rfl) rfl)
      have t1 : ∀ (n : Nat), evT (callD Pg LL (n + 1)) [none, none, none, none] (58 + 1) (.cmp .eq (.call jd [.var 0, .cst (.int 2)] []) (.cst (.int 0))) [some (.sh (.hp i)), some (.sh w), some (.lst os), none] (hq h i j q1) = .ok (decide ((r : Int) = 0)) [some (.sh (.hp i)), some (.sh w), some (.lst os), none] (hq h i j q2) := fun n =>
        t_cmp (x := .int r) (y := .int 0) (d_e rfl (e_call (n := 57) (l_cons (e_var (n := 56) rfl) (l_cons (e_cst (n := 56)) l_nil)) rfl (e2 n))) (d_e rfl (e_cst (n := 57))) rfl rfl rfl
      by_cases hr0 : r = 0
      · refine ⟨(tupO (.lst os)).getD (.sh .non), q2, fun n hn => ?_, ?_, ok2⟩
        · obtain ⟨n, rfl⟩ : ∃ m, n = m + 1 + 1 := ⟨n - 2, by omega⟩
          rw [call_fn hl]
          have t1 := t1 n
          rw [decide_eq_true (by omega : (r : Int) = 0)] at t1
          unfold kLoose
          refine run_ret rfl rfl rfl rfl (b_next (s_ifF (t0 _) b_nil) (b_next (st0 _ (by omega)) (b_ret (s_ret (e_iteT (n := 59) t1 (e_btup (n := 58) (e_mv (n := 57) rfl) ?_))))))
          obtain ⟨o, eo⟩ := tupO_lst os
          show tupO (.lst os) = _
          rw [eo]
          rfl
        · have et : ((tupO (.lst os)).getD (.sh .non)).toW = .tup (O.toWs os) := tupO_toW os
          rw [et]
          refine ⟨.sq hw (.inr rfl) lo, ?_⟩
          show (decide ((O.toWs os).length ≤ L) && (O.toWs os).all (plainL L d)) = true
          simp only [Bool.and_eq_true, decide_eq_true_eq, List.all_eq_true]
          exact ⟨by omega, pl⟩
      · refine ⟨.lst os, q2, fun n hn => ?_, ⟨.sq hw (.inl rfl) lo, ?_⟩, ok2⟩
        · obtain ⟨n, rfl⟩ : ∃ m, n = m + 1 + 1 := ⟨n - 2, by omega⟩
          rw [call_fn hl]
          have t1 := t1 n
          rw [decide_eq_false (by omega : ¬ (r : Int) = 0)] at t1
          unfold kLoose
          exact run_ret rfl rfl rfl rfl (b_next (s_ifF (t0 _) b_nil) (b_next (st0 _ (by omega)) (b_ret (s_ret (e_iteF (n := 59) t1 (e_mv (n := 58) rfl))))))
        · show (decide ((O.toWs os).length ≤ L) && (O.toWs os).all (plainL L d)) = true
          simp only [Bool.and_eq_true, decide_eq_true_eq, List.all_eq_true]
          exact ⟨by omega, pl⟩
    cases w with
    | lst ws =>
      simp only [plainL, Bool.and_eq_true, List.all_eq_true, decide_eq_true_eq] at e
      exact seq (.inl rfl) e.1 e.2 (ok.less (by show m + 1 + (ws.map (cnt d)).sum ≤ m + ((ws.map (cnt d)).sum + 1); omega))
    | tup ws =>
      simp only [plainL, Bool.and_eq_true, List.all_eq_true, decide_eq_true_eq] at e
      exact seq (.inr rfl) e.1 e.2 (ok.less (by show m + 1 + (ws.map (cnt d)).sum ≤ m + ((ws.map (cnt d)).sum + 1); omega))
    | non => exact scalar (fun xs q => by rcases q with q | q <;> cases q) rfl rfl rfl
    | bl b => exact scalar (fun xs q => by rcases q with q | q <;> cases q) rfl rfl rfl
    | int b => exact scalar (fun xs q => by rcases q with q | q <;> cases q) rfl rfl rfl
    | str b => exact scalar (fun xs q => by rcases q with q | q <;> cases q) rfl rfl rfl
    | _ => cases e
end
end Mini
set_option Elab.async false
set_option linter.all false
set_option maxRecDepth 100000
set_option maxHeartbeats 1000000
/-! Laws of refusals: what is drawn is marked. -/
namespace Mini
section
variable {tok : Nat → W} {orc : Nat → List O → Option O} {pl : Nat → Bool} {n0 n : Nat} {Pg : List DefR} {LL : List LamR}
/-- a call that is walked without marks -/
theorem call_pl {f : Nat} {os : List O} {h : HH} (ho : orc f os = none) (hp : pl f = true) : callO tok orc pl n0 Pg LL (n + 1) (.fn f) os h = callD Pg LL (n0 + n + 1) (.fn f) os h := by
  show (match orc f os with
        | some o => R.ok o [] h
        | none => if pl f then callD Pg LL (n0 + n + 1) (.fn f) os h else (match Pg[f]? with
          | some d => runD (callO tok orc pl n0 Pg LL n) d os h
          | none => .fail)) = _
  rw [ho, hp]
  rfl
theorem sames_rf : ∀ v : List Nat, sames (natsW v) (natsW v) = true
  | [] => rfl
  | a :: v => by
    show (decide ((a : Int) = a) && sames (natsW v) (natsW v)) = true
    rw [sames_rf v, decide_eq_true rfl]
    rfl
theorem below_nats (n : Nat) : ∀ v : List Nat, belowWs n (natsW v) = true
  | [] => rfl
  | a :: v => below_nats n v
/-- an order is marked -/
theorem seal_ord {t : Nat} {v : List Nat} {h : HH} (hv : v.length < 64) (ht : tok (t * 64 + v.length) = .lst (natsW v)) : callO tok orc pl n0 Pg LL (n + 1) (.tok t) [.lst ((natsW v).map .sh)] h = .ok (.sh (.opq (t * 64 + v.length))) [] h := by
  show sealO tok t [.lst ((natsW v).map .sh)] h = _
  have e : (O.lst ((natsW v).map .sh)).toW = .lst (natsW v) := by
    show W.lst (O.toWs _) = _
    rw [toWs_map]
  unfold sealO
  dsimp only
  rw [e]
  show (if (decide ((natsW v).length < 64) && (same (.lst (natsW v)) (tok (t * 64 + (natsW v).length)) && belowW 0 (tok (t * 64 + (natsW v).length)))) = true then R.ok (O.sh (.opq (t * 64 + (natsW v).length))) [] h else .fail) = _
  rw [natsW_len, ht, decide_eq_true hv]
  have h1 : same (.lst (natsW v)) (.lst (natsW v)) = true := sames_rf v
  have h2 : belowW 0 (.lst (natsW v)) = true := below_nats 0 v
  rw [h1, h2]
  rfl
/-- the mark of a thing -/
theorem e_mrk {cf : CF} {ce : List (Option Nat)} {m t : Nat} {a : ME} {s s1 : SL} {h h1 : HH} {o o2 : O} (e : evE cf ce m a s h = .ok o s1 h1) (e2 : cf (.tok t) [o] h1 = .ok o2 [] h1) : evE cf ce (m + 1) (.mrk t a) s h = .ok o2 s1 h1 := by
  rw [mrk_rule, e]
  show callR cf (.tok t) [o] s1 h1 = _
  unfold callR
  rw [e2]
/-- kept_order's answer -/
theorem okKept {jk : Nat} (D : Ords Pg jk) {v : List Nat} (hv : IsOrd v) {i k : Nat} (hl : v.length ≤ 4000) (ti : tok i = .lst (natsW v)) (tk : tok k = .tup (natsW v)) (mk : v.length = k % 64) (h4 : 3 ≤ n0) :
    okAns tok (.sh (.opq k)) ∧ ∀ h, ∃ s', callD Pg LL (n0 + n + 1) (.fn jk) ([O.sh (.opq i)].map (rsv tok)) h = .ok (rsv tok (.sh (.opq k))) s' h := by
  refine ⟨⟨?_, ?_⟩, fun h => ⟨[], ?_⟩⟩
  · rw [tk]
    show some (natsW v).length = _
    rw [natsW_len, mk]
  · rw [tk]
    exact below_nats 0 v
  · show callD Pg LL (n0 + n + 1) (.fn jk) [.sh (tok i)] h = .ok (.sh (tok k)) [] h
    rw [ti, tk, show n0 + n + 1 = (n0 + n - 3) + 4 by omega]
    exact keptW D (.inl rfl) hv hl _ h
/-- a law's end -/
theorem tellsC_ok {j : Nat} {d : DefR} {ns : List Int} {m : Nat} {s0 : SL} {h0 : HH} {ce0 : List (Option Nat)} (hm : m = n + 1) (ho : orc j [.sh (.ks (intsW ns))] = none) (hpl : pl j = false) (hj : Pg[j]? = some d) (hf : d.fin = none) (hn : d.np = 1)
    (hc : mkCe d.cl 0 = ce0) (hs : [O.sh (.ks (intsW ns))].map some ++ List.replicate (d.ns - d.np) none = s0) (hh : List.replicate (d.cl.count true) (HObj.cell none) = h0) (e : isR (exL (exS (callO tok orc pl n0 Pg LL n) ce0 sf) d.body s0 h0) = true) : TellsC (callO tok orc pl n0 Pg LL m) j ns := by
  subst hm hc hs hh
  exact ⟨lawO_ok ho hpl hj hf hn e⟩
end
end Mini
set_option Elab.async false
set_option linter.all false
set_option maxRecDepth 100000
set_option maxHeartbeats 1000000
/-! Evaluation in another form, quicker for the kernel. -/
namespace Mini
abbrev EvE : Type := List (Option Nat) → ME → SL → HH → R O
abbrev EvT : Type := List (Option Nat) → ME → SL → HH → R Bool
def xE_cst (cf : CF) (ce : List (Option Nat)) (E : EvE) (T : EvT) (w : W) (s : SL) (h : HH) : R O := .ok (.sh w) s h
def xE_var (cf : CF) (ce : List (Option Nat)) (E : EvE) (T : EvT) (i : Nat) (s : SL) (h : HH) : R O := match rdS s i with
      | some (w, s) => .ok (.sh w) s h
      | none => .fail
def xE_mv (cf : CF) (ce : List (Option Nat)) (E : EvE) (T : EvT) (i : Nat) (s : SL) (h : HH) : R O := match s[i]? with
      | some (some o) => .ok o (s.set i none) h
      | _ => .fail
def xE_cel (cf : CF) (ce : List (Option Nat)) (E : EvE) (T : EvT) (i : Nat) (s : SL) (h : HH) : R O := match ce[i]? with
      | some (some j) => match h[j]? with
        | some (.cell (some w)) => .ok (.sh w) s h
        | _ => .fail
      | _ => .fail
def xE_fn (cf : CF) (ce : List (Option Nat)) (E : EvE) (T : EvT) (f : Nat) (s : SL) (h : HH) : R O := .ok (.sh (.fn f)) s h
def xE_bin (cf : CF) (ce : List (Option Nat)) (E : EvE) (T : EvT) (op : BOp) (a : ME) (b : ME) (s : SL) (h : HH) : R O := ev2 (E ce) a b s h fun x y s h => ofO (binW op x y) s h
def xE_neg (cf : CF) (ce : List (Option Nat)) (E : EvE) (T : EvT) (a : ME) (s : SL) (h : HH) : R O := (ev1 (E ce) a s h).bind fun w s h => match w with
      | .int i => .ok (.sh (.int (-i))) s h
      | _ => .fail
def xE_cmp (cf : CF) (ce : List (Option Nat)) (E : EvE) (T : EvT) (op : COp) (a : ME) (b : ME) (s : SL) (h : HH) : R O := ev2 (E ce) a b s h fun x y s h => match cmpD op x y with
      | some b => .ok (.sh (.bl b)) s h
      | none => .fail
def xE_cmp2 (cf : CF) (ce : List (Option Nat)) (E : EvE) (T : EvT) (op : COp) (op' : COp) (a : ME) (b : ME) (c : ME) (s : SL) (h : HH) : R O := (cmp2E (E ce) op op' a b c s h).bind fun b s h => .ok (.sh (.bl b)) s h
def xE_isn (cf : CF) (ce : List (Option Nat)) (E : EvE) (T : EvT) (ne : Bool) (a : ME) (s : SL) (h : HH) : R O := (ev1 (E ce) a s h).bind fun w s h => .ok (.sh (.bl (if ne then !isNon w else isNon w))) s h
def xE_isb (cf : CF) (ce : List (Option Nat)) (E : EvE) (T : EvT) (ne : Bool) (b : Bool) (a : ME) (s : SL) (h : HH) : R O := (ev1 (E ce) a s h).bind fun w s h => match w with
      | .bl c => .ok (.sh (.bl (if ne then !(b == c) else b == c))) s h
      | _ => .fail
def xE_and_ (cf : CF) (ce : List (Option Nat)) (E : EvE) (T : EvT) (es : List ME) (s : SL) (h : HH) : R O := andL (E ce) es s h
def xE_or_ (cf : CF) (ce : List (Option Nat)) (E : EvE) (T : EvT) (es : List ME) (s : SL) (h : HH) : R O := orL (E ce) es s h
def xE_not_ (cf : CF) (ce : List (Option Nat)) (E : EvE) (T : EvT) (a : ME) (s : SL) (h : HH) : R O := (ev1 (E ce) a s h).bind fun w s h => match truW w with
      | some b => .ok (.sh (.bl (!b))) s h
      | none => .fail
def xE_ite (cf : CF) (ce : List (Option Nat)) (E : EvE) (T : EvT) (c : ME) (a : ME) (b : ME) (s : SL) (h : HH) : R O := (T ce c s h).bind fun t s h => if t then E ce a s h else E ce b s h
def xE_tup (cf : CF) (ce : List (Option Nat)) (E : EvE) (T : EvT) (es : List ME) (s : SL) (h : HH) : R O := (evL (E ce) es s h).bind fun os s h => match shs? os with
      | some ws => .ok (.sh (.tup ws)) s h
      | none => .ok (.tup os) s h
def xE_lst (cf : CF) (ce : List (Option Nat)) (E : EvE) (T : EvT) (es : List ME) (s : SL) (h : HH) : R O := (evL (E ce) es s h).bind fun os s h => .ok (.lst os) s h
def xE_dnew (cf : CF) (ce : List (Option Nat)) (E : EvE) (T : EvT) (t : Bool) (s : SL) (h : HH) : R O := .ok (.dic t [] []) s h
def xE_idx (cf : CF) (ce : List (Option Nat)) (E : EvE) (T : EvT) (a : ME) (b : ME) (s : SL) (h : HH) : R O := ev2 (E ce) a b s h fun x y s h => match getW x y with
      | some w => .ok (.sh w) s h
      | none => .fail
def xE_slc (cf : CF) (ce : List (Option Nat)) (E : EvE) (T : EvT) (a : ME) (lo : Option ME) (hi : Option ME) (s : SL) (h : HH) : R O := (evD (E ce) a s h).bind fun d s h => (evO (E ce) lo s h).bind fun l s h => (evO (E ce) hi s h).bind fun u s h => match d.get s h with
      | some x => ofO (slcW x l u) s h
      | none => .fail
def xE_rev (cf : CF) (ce : List (Option Nat)) (E : EvE) (T : EvT) (a : ME) (s : SL) (h : HH) : R O := (ev1 (E ce) a s h).bind fun w s h => ofO (revW w) s h
def xE_call (cf : CF) (ce : List (Option Nat)) (E : EvE) (T : EvT) (f : Nat) (es : List ME) (kw : List Nat) (s : SL) (h : HH) : R O := (evL (E ce) es s h).bind fun os s h => match pickO kw os with
      | some os => callC cf ce (.fn f) os s h
      | none => .fail
def xE_callv (cf : CF) (ce : List (Option Nat)) (E : EvE) (T : EvT) (g : ME) (es : List ME) (s : SL) (h : HH) : R O := (E ce g s h).bind fun o s h => match calleeO o with
      | some c => (evL (E ce) es s h).bind fun os s h => callC cf ce c os s h
      | none => .fail
def xE_bi (cf : CF) (ce : List (Option Nat)) (E : EvE) (T : EvT) (b : BI) (es : List ME) (s : SL) (h : HH) : R O := (evDs (E ce) es s h).bind fun ds s h => match getDs s h ds with
      | some ws => ofO (biW b ws) s h
      | none => .fail
def xE_lset (cf : CF) (ce : List (Option Nat)) (E : EvE) (T : EvT) (a : ME) (s : SL) (h : HH) : R O := (E ce a s h).bind fun o s h => ofO (lensetF [o.toW]) s h
def xE_isty (cf : CF) (ce : List (Option Nat)) (E : EvE) (T : EvT) (ts : List Ty) (a : ME) (s : SL) (h : HH) : R O := (ev1 (E ce) a s h).bind fun w s h => match isTyW ts w with
      | some b => .ok (.sh (.bl b)) s h
      | none => .fail
def xE_pop (cf : CF) (ce : List (Option Nat)) (E : EvE) (T : EvT) (o : ME) (s : SL) (h : HH) : R O := (evP (E ce) o s h).bind fun p s h => popP p (-1) s h
def xE_popi (cf : CF) (ce : List (Option Nat)) (E : EvE) (T : EvT) (o : ME) (i : ME) (s : SL) (h : HH) : R O := (evPl (E ce) o s h).bind fun p s h => (ev1 (E ce) i s h).bind fun w s h => match w with
      | .int k => if rgOk k then popP p k s h else .fail
      | _ => .fail
def xE_index (cf : CF) (ce : List (Option Nat)) (E : EvE) (T : EvT) (a : ME) (b : ME) (s : SL) (h : HH) : R O := (evD (E ce) a s h).bind fun d s h => match d.get s h with
      | some (.lst _) => (ev1 (E ce) b s h).bind fun y s h => match d.get s h with
        | some (.lst xs) => match indexW (.lst xs) y with
          | some w => .ok (.sh w) s h
          | none => .fail
        | _ => .fail
      | _ => .fail
def xE_getd (cf : CF) (ce : List (Option Nat)) (E : EvE) (T : EvT) (a : ME) (b : ME) (c : ME) (s : SL) (h : HH) : R O := (evD (E ce) a s h).bind fun d s h => match d.get s h with
      | some (.dic _ _ _) => (evD (E ce) b s h).bind fun d' s h => (E ce c s h).bind fun z s h => match d.get s h, d'.get s h with
        | some (.dic t ks vs), some k => if keyW t k then (match lookK k ks vs with
          | some w => .ok (.sh w) s h
          | none => .ok z s h) else .fail
        | _, _ => .fail
      | _ => .fail
def xE_comp (cf : CF) (ce : List (Option Nat)) (E : EvE) (T : EvT) (own : List Nat) (tg : Tg) (it : IT) (ifs : Option ME) (elt : ME) (s : SL) (h : HH) : R O := (itE (E ce) it s h).bind fun k s h => if shOk s own && decide (k.ws.length ≤ line) then
      (compL tg own k.gs (testE (T []) ifs) (E [] elt) k.ws [] s h).nox.bind fun os s' h => .ok (.lst os) (unwipe s own s') h else .fail
def xE_compX (cf : CF) (ce : List (Option Nat)) (E : EvE) (T : EvT) (own : List Nat) (tg : Tg) (it : IT) (ifs : Option ME) (elt : ME) (fr : List Nat) (oc : List Nat) (s : SL) (h : HH) : R O := (itE (E ce) it s h).bind fun k s h => if shOk s own && decide (k.ws.length ≤ line) then
      (compL tg own k.gs (testE (T []) ifs) (ownE (fun ce => E ce elt) fr oc ce) k.ws [] s h).nox.bind fun os s' h => .ok (.lst os) (unwipe s own s') h else .fail
def xE_dcomp (cf : CF) (ce : List (Option Nat)) (E : EvE) (T : EvT) (own : List Nat) (t : Bool) (tg : Tg) (it : IT) (ifs : Option ME) (k : ME) (v : ME) (s : SL) (h : HH) : R O := (itE (E ce) it s h).bind fun kk s h => if shOk s own && decide (kk.ws.length ≤ line) then
      (dcompL tg own kk.gs (testE (T []) ifs) (E [] k) (E [] v) kk.ws [] [] s h).nox.bind fun p s' h => .ok (.dic false p.1 (p.2.map .sh)) (unwipe s own s') h else .fail
def xE_lam (cf : CF) (ce : List (Option Nat)) (E : EvE) (T : EvT) (l : Nat) (is : List Nat) (s : SL) (h : HH) : R O := match celsOf ce is with
      | some cs => .ok (.sh (.clo l cs)) s h
      | none => .fail
def xE_prom (cf : CF) (ce : List (Option Nat)) (E : EvE) (T : EvT) (a : ME) (s : SL) (h : HH) : R O := (E ce a s h).bind fun o s h => match o with
      | .lst os => .ok (.sh (.hp h.length)) s (h ++ [.lst (O.toWs os)])
      | _ => .fail
def xE_lrng (cf : CF) (ce : List (Option Nat)) (E : EvE) (T : EvT) (a : ME) (s : SL) (h : HH) : R O := (ev1 (E ce) a s h).bind fun w s h => match w with
      | .int k => if rgOk k && decide (k.toNat ≤ line) then .ok (.lst ((rangeW 0 k 1).map .sh)) s h else .fail
      | _ => .fail
def xE_lrng2 (cf : CF) (ce : List (Option Nat)) (E : EvE) (T : EvT) (a : ME) (b : ME) (s : SL) (h : HH) : R O := ev2 (E ce) a b s h fun x y s h => match x, y with
      | .int i, .int j => if rgOk i && (rgOk j && decide ((j - i).toNat ≤ line)) then .ok (.lst ((rangeW i j 1).map .sh)) s h else .fail
      | _, _ => .fail
def xE_kin (cf : CF) (ce : List (Option Nat)) (E : EvE) (T : EvT) (ne : Bool) (a : ME) (ks : List (List Nat)) (s : SL) (h : HH) : R O := (ev1 (E ce) a s h).bind fun w s h => match w with
      | .str z => .ok (.sh (.bl (if ne then !ks.contains z else ks.contains z))) s h
      | _ => .fail
def xE_tupS (cf : CF) (ce : List (Option Nat)) (E : EvE) (T : EvT) (es : List (Bool × ME)) (s : SL) (h : HH) : R O := (evLS (E ce) es s h).bind fun os s h => if os.length ≤ line then (match shs? os with
      | some ws => .ok (.sh (.tup ws)) s h
      | none => .ok (.tup os) s h) else .fail
def xE_lstS (cf : CF) (ce : List (Option Nat)) (E : EvE) (T : EvT) (es : List (Bool × ME)) (s : SL) (h : HH) : R O := (evLS (E ce) es s h).bind fun os s h => if os.length ≤ line then .ok (.lst os) s h else .fail
def xE_mrk (cf : CF) (ce : List (Option Nat)) (E : EvE) (T : EvT) (t : Nat) (a : ME) (s : SL) (h : HH) : R O := (E ce a s h).bind fun o s h => callR cf (.tok t) [o] s h
def xE_btup (cf : CF) (ce : List (Option Nat)) (E : EvE) (T : EvT) (a : ME) (s : SL) (h : HH) : R O := (E ce a s h).bind fun o s h => ofO (tupO o) s h
def xE_shr (cf : CF) (ce : List (Option Nat)) (E : EvE) (T : EvT) (a : ME) (s : SL) (h : HH) : R O := (E ce a s h).bind fun o s h => .ok (.sh o.toW) s h
def xE_bcall (cf : CF) (ce : List (Option Nat)) (E : EvE) (T : EvT) (j : Nat) (is : List Nat) (s : SL) (h : HH) : R O := bcallR cf j is s h
def xE_callvK (cf : CF) (ce : List (Option Nat)) (E : EvE) (T : EvT) (g : ME) (es : List ME) (kw : List Nat) (fs : List Nat) (s : SL) (h : HH) : R O := (E ce g s h).bind fun o s h => match o with
      | .sh (.fn j) => if fs.contains j then (evL (E ce) es s h).bind fun os s h => match pickO kw os with
        | some os => callC cf ce (.fn j) os s h
        | none => .fail
        else .fail
      | _ => .fail
def xE_items (cf : CF) (ce : List (Option Nat)) (E : EvE) (T : EvT) (a : ME) (s : SL) (h : HH) : R O := (E ce a s h).bind fun o s h => match o.toW with
      | .dic false ks vs => .ok (.lst ((zipW ks vs).map .sh)) s h
      | _ => .fail
def stepE (cf : CF) (E : EvE) (T : EvT) (ce : List (Option Nat)) (m : ME) (s : SL) (h : HH) : R O := match m with
  | .cst w => xE_cst cf ce E T w s h
  | .var i => xE_var cf ce E T i s h
  | .mv i => xE_mv cf ce E T i s h
  | .cel i => xE_cel cf ce E T i s h
  | .fn f => xE_fn cf ce E T f s h
  | .bin op a b => xE_bin cf ce E T op a b s h
  | .neg a => xE_neg cf ce E T a s h
  | .cmp op a b => xE_cmp cf ce E T op a b s h
  | .cmp2 op op' a b c => xE_cmp2 cf ce E T op op' a b c s h
  | .isn ne a => xE_isn cf ce E T ne a s h
  | .isb ne b a => xE_isb cf ce E T ne b a s h
  | .and_ es => xE_and_ cf ce E T es s h
  | .or_ es => xE_or_ cf ce E T es s h
  | .not_ a => xE_not_ cf ce E T a s h
  | .ite c a b => xE_ite cf ce E T c a b s h
  | .tup es => xE_tup cf ce E T es s h
  | .lst es => xE_lst cf ce E T es s h
  | .dnew t => xE_dnew cf ce E T t s h
  | .idx a b => xE_idx cf ce E T a b s h
  | .slc a lo hi => xE_slc cf ce E T a lo hi s h
  | .rev a => xE_rev cf ce E T a s h
  | .call f es kw => xE_call cf ce E T f es kw s h
  | .callv g es => xE_callv cf ce E T g es s h
  | .bi b es => xE_bi cf ce E T b es s h
  | .lset a => xE_lset cf ce E T a s h
  | .isty ts a => xE_isty cf ce E T ts a s h
  | .pop o => xE_pop cf ce E T o s h
  | .popi o i => xE_popi cf ce E T o i s h
  | .index a b => xE_index cf ce E T a b s h
  | .getd a b c => xE_getd cf ce E T a b c s h
  | .comp own tg it ifs elt => xE_comp cf ce E T own tg it ifs elt s h
  | .compX own tg it ifs elt fr oc => xE_compX cf ce E T own tg it ifs elt fr oc s h
  | .dcomp own t tg it ifs k v => xE_dcomp cf ce E T own t tg it ifs k v s h
  | .lam l is => xE_lam cf ce E T l is s h
  | .prom a => xE_prom cf ce E T a s h
  | .lrng a => xE_lrng cf ce E T a s h
  | .lrng2 a b => xE_lrng2 cf ce E T a b s h
  | .kin ne a ks => xE_kin cf ce E T ne a ks s h
  | .tupS es => xE_tupS cf ce E T es s h
  | .lstS es => xE_lstS cf ce E T es s h
  | .mrk t a => xE_mrk cf ce E T t a s h
  | .btup a => xE_btup cf ce E T a s h
  | .shr a => xE_shr cf ce E T a s h
  | .bcall j is => xE_bcall cf ce E T j is s h
  | .callvK g es kw fs => xE_callvK cf ce E T g es kw fs s h
  | .items a => xE_items cf ce E T a s h
def xT_not_ (cf : CF) (ce : List (Option Nat)) (E : EvE) (T : EvT) (a : ME) (s : SL) (h : HH) : R Bool := (T ce a s h).bind fun b s h => .ok (!b) s h
def xT_and_ (cf : CF) (ce : List (Option Nat)) (E : EvE) (T : EvT) (es : List ME) (s : SL) (h : HH) : R Bool := allT (T ce) es s h
def xT_or_ (cf : CF) (ce : List (Option Nat)) (E : EvE) (T : EvT) (es : List ME) (s : SL) (h : HH) : R Bool := anyT (T ce) es s h
def xT_ite (cf : CF) (ce : List (Option Nat)) (E : EvE) (T : EvT)  (s : SL) (h : HH) : R Bool := .fail
def xT_cmp2 (cf : CF) (ce : List (Option Nat)) (E : EvE) (T : EvT) (op : COp) (op' : COp) (a : ME) (b : ME) (c : ME) (s : SL) (h : HH) : R Bool := cmp2E (E ce) op op' a b c s h
def xT_isn (cf : CF) (ce : List (Option Nat)) (E : EvE) (T : EvT) (ne : Bool) (a : ME) (s : SL) (h : HH) : R Bool := (ev1 (E ce) a s h).bind fun w s h => .ok (if ne then !isNon w else isNon w) s h
def xT_kin (cf : CF) (ce : List (Option Nat)) (E : EvE) (T : EvT) (ne : Bool) (a : ME) (ks : List (List Nat)) (s : SL) (h : HH) : R Bool := (ev1 (E ce) a s h).bind fun w s h => match w with
      | .str z => .ok (if ne then !ks.contains z else ks.contains z) s h
      | _ => .fail
def xT_isb (cf : CF) (ce : List (Option Nat)) (E : EvE) (T : EvT) (ne : Bool) (b : Bool) (a : ME) (s : SL) (h : HH) : R Bool := (ev1 (E ce) a s h).bind fun w s h => match w with
      | .bl c => .ok (if ne then !(b == c) else b == c) s h
      | _ => .fail
def xT_cmp (cf : CF) (ce : List (Option Nat)) (E : EvE) (T : EvT) (op : COp) (a : ME) (b : ME) (s : SL) (h : HH) : R Bool := ev2 (E ce) a b s h fun x y s h => ofO (cmpD op x y) s h
def xT_else (cf : CF) (ce : List (Option Nat)) (E : EvE) (T : EvT) (e : ME) (s : SL) (h : HH) : R Bool := (ev1 (E ce) e s h).bind fun w s h => ofO (truW w) s h
def stepT (cf : CF) (E : EvE) (T : EvT) (ce : List (Option Nat)) (m : ME) (s : SL) (h : HH) : R Bool := match m with
  | .not_ a => xT_not_ cf ce E T a s h
  | .and_ es => xT_and_ cf ce E T es s h
  | .or_ es => xT_or_ cf ce E T es s h
  | .ite _ _ _ => xT_ite cf ce E T  s h
  | .cmp2 op op' a b c => xT_cmp2 cf ce E T op op' a b c s h
  | .isn ne a => xT_isn cf ce E T ne a s h
  | .kin ne a ks => xT_kin cf ce E T ne a ks s h
  | .isb ne b a => xT_isb cf ce E T ne b a s h
  | .cmp op a b => xT_cmp cf ce E T op a b s h
  | e => xT_else cf ce E T e s h
def xS_expr (cf : CF) (ce : List (Option Nat)) (E : EvE) (T : EvT) (X : MS → SL → HH → R Fl) (e : ME) (s : SL) (h : HH) : R Fl := (E ce e s h).bind fun _ s h => .ok .next s h
def xS_set (cf : CF) (ce : List (Option Nat)) (E : EvE) (T : EvT) (X : MS → SL → HH → R Fl) (i : Nat) (e : ME) (s : SL) (h : HH) : R Fl := (E ce e s h).bind fun o s h => .ok .next (s.set i (some o)) h
def xS_par (cf : CF) (ce : List (Option Nat)) (E : EvE) (T : EvT) (X : MS → SL → HH → R Fl) (is : List Nat) (es : List ME) (s : SL) (h : HH) : R Fl := (evL (E ce) es s h).bind fun os s h => match setOs s is os with
      | some s => .ok .next s h
      | none => .fail
def xS_unp (cf : CF) (ce : List (Option Nat)) (E : EvE) (T : EvT) (X : MS → SL → HH → R Fl) (is : List Nat) (e : ME) (s : SL) (h : HH) : R Fl := (E ce e s h).bind fun o s h => match o with
      | .sh (.tup ws) => match setMany s is ws with
        | some s => .ok .next s h
        | none => .fail
      | .tup os => match setOs s is os with
        | some s => .ok .next s h
        | none => .fail
      | _ => .fail
def xS_stI (cf : CF) (ce : List (Option Nat)) (E : EvE) (T : EvT) (X : MS → SL → HH → R Fl) (o : ME) (i : ME) (e : ME) (s : SL) (h : HH) : R Fl := (E ce e s h).bind fun v s h => (evP (E ce) o s h).bind fun p s h => (ev1 (E ce) i s h).bind fun k s h => (stP1 p k v s h).bind fun _ s h => .ok .next s h
def xS_stP (cf : CF) (ce : List (Option Nat)) (E : EvE) (T : EvT) (X : MS → SL → HH → R Fl) (o : ME) (i : ME) (o' : ME) (i' : ME) (es : List ME) (s : SL) (h : HH) : R Fl := (evL (E ce) es s h).bind fun vs s h => match vs with
      | [v, v'] => (evP (E ce) o s h).bind fun p s h => (ev1 (E ce) i s h).bind fun k s h => (stP1 p k v s h).bind fun _ s h =>
        (evP (E ce) o' s h).bind fun p s h => (ev1 (E ce) i' s h).bind fun k s h => (stP1 p k v' s h).bind fun _ s h => .ok .next s h
      | _ => .fail
def xS_aug (cf : CF) (ce : List (Option Nat)) (E : EvE) (T : EvT) (X : MS → SL → HH → R Fl) (op : BOp) (i : Nat) (e : ME) (s : SL) (h : HH) : R Fl := match s[i]? with
      | some (some (.sh (.int a))) => (ev1 (E ce) e s h).bind fun w s h => match w with
        | .int b => (match op with
          | .add => .ok .next (s.set i (some (.sh (.int (a + b))))) h
          | .sub => .ok .next (s.set i (some (.sh (.int (a - b))))) h
          | _ => .fail)
        | _ => .fail
      | _ => .fail
def xS_app (cf : CF) (ce : List (Option Nat)) (E : EvE) (T : EvT) (X : MS → SL → HH → R Fl) (o : ME) (e : ME) (s : SL) (h : HH) : R Fl := (evPl (E ce) o s h).bind fun p s h => (E ce e s h).bind fun v s h => (appP p v s h).bind fun _ s h => .ok .next s h
def xS_ext (cf : CF) (ce : List (Option Nat)) (E : EvE) (T : EvT) (X : MS → SL → HH → R Fl) (i : Nat) (e : ME) (s : SL) (h : HH) : R Fl := match s[i]? with
      | some (some (.lst _)) => (E ce e s h).bind fun v s h => match s[i]?, extO v with
        | some (some (.lst xs)), some ys => if xs.length + ys.length ≤ line then .ok .next (s.set i (some (.lst (xs ++ ys)))) h else .fail
        | _, _ => .fail
      | _ => .fail
def xS_ret (cf : CF) (ce : List (Option Nat)) (E : EvE) (T : EvT) (X : MS → SL → HH → R Fl) (e : ME) (s : SL) (h : HH) : R Fl := (E ce e s h).bind fun o s h => .ok (.ret o) s h
def xS_retN (cf : CF) (ce : List (Option Nat)) (E : EvE) (T : EvT) (X : MS → SL → HH → R Fl)  (s : SL) (h : HH) : R Fl := .ok (.ret (.sh .non)) s h
def xS_if_ (cf : CF) (ce : List (Option Nat)) (E : EvE) (T : EvT) (X : MS → SL → HH → R Fl) (c : ME) (a : List MS) (b : List MS) (s : SL) (h : HH) : R Fl := (T ce c s h).bind fun t s h => if t then exL (X) a s h else exL (X) b s h
def xS_for_ (cf : CF) (ce : List (Option Nat)) (E : EvE) (T : EvT) (X : MS → SL → HH → R Fl) (tg : Tg) (it : IT) (body : List MS) (s : SL) (h : HH) : R Fl := (itE (E ce) it s h).bind fun k s h => forL tg k.gs (exL (X) body) k.ws s h
def xS_forT (cf : CF) (ce : List (Option Nat)) (E : EvE) (T : EvT) (X : MS → SL → HH → R Fl) (tg : Tg) (it : IT) (body : List MS) (s : SL) (h : HH) : R Fl := (itE (E ce) it s h).bind fun k s h => forL tg k.gs (backB (exL (X) body)) k.ws s h
def xS_while_ (cf : CF) (ce : List (Option Nat)) (E : EvE) (T : EvT) (X : MS → SL → HH → R Fl) (m : Nat) (c : ME) (body : List MS) (s : SL) (h : HH) : R Fl := whileL (T ce c) (exL (X) body) m s h
def xS_raise_ (cf : CF) (ce : List (Option Nat)) (E : EvE) (T : EvT) (X : MS → SL → HH → R Fl) (c : Nat) (es : List ME) (s : SL) (h : HH) : R Fl := (evL (E ce) es s h).bind fun os s h => .exc c (O.toWs os) s h
def xS_stD (cf : CF) (ce : List (Option Nat)) (E : EvE) (T : EvT) (X : MS → SL → HH → R Fl) (i : Nat) (ke : ME) (e : ME) (s : SL) (h : HH) : R Fl := (E ce e s h).bind fun v s h => match s[i]? with
      | some (some (.dic _ _ _)) => (ev1 (E ce) ke s h).bind fun k s h => match s[i]? with
        | some (some (.dic t ks vs)) => if keyW t k && decide (ks.length < line) then (match putD k v ks vs with
          | some (ks', vs') => .ok .next (s.set i (some (.dic t ks' vs'))) h
          | none => .fail) else .fail
        | _ => .fail
      | _ => .fail
def xS_spl (cf : CF) (ce : List (Option Nat)) (E : EvE) (T : EvT) (X : MS → SL → HH → R Fl) (j : Nat) (i : Nat) (s : SL) (h : HH) : R Fl := match s[i]? with
      | some (some o) => match cf (.spl j) [o] h with
        | .ok o' _ _ => .ok .next (s.set i (some o')) h
        | _ => .fail
      | _ => .fail
def xS_tryR (cf : CF) (ce : List (Option Nat)) (E : EvE) (T : EvT) (X : MS → SL → HH → R Fl) (e : ME) (hs : List (Nat × W × Bool)) (s : SL) (h : HH) : R Fl := match E ce e s h with
      | .ok o s h => .ok (.ret o) s h
      | .exc c ws s h => tryK hs c ws s h
      | .fail => .fail
def xS_brk (cf : CF) (ce : List (Option Nat)) (E : EvE) (T : EvT) (X : MS → SL → HH → R Fl)  (s : SL) (h : HH) : R Fl := .ok .brk s h
def xS_cont (cf : CF) (ce : List (Option Nat)) (E : EvE) (T : EvT) (X : MS → SL → HH → R Fl)  (s : SL) (h : HH) : R Fl := .ok .cont s h
def xS_pass (cf : CF) (ce : List (Option Nat)) (E : EvE) (T : EvT) (X : MS → SL → HH → R Fl)  (s : SL) (h : HH) : R Fl := .ok .next s h
def xS_junk (cf : CF) (ce : List (Option Nat)) (E : EvE) (T : EvT) (X : MS → SL → HH → R Fl)  (s : SL) (h : HH) : R Fl := .fail
def stepS (cf : CF) (E : EvE) (T : EvT) (ce : List (Option Nat)) (X : MS → SL → HH → R Fl) (m : MS) (s : SL) (h : HH) : R Fl := match m with
  | .expr e => xS_expr cf ce E T X e s h
  | .set i e => xS_set cf ce E T X i e s h
  | .par is es => xS_par cf ce E T X is es s h
  | .unp is e => xS_unp cf ce E T X is e s h
  | .stI o i e => xS_stI cf ce E T X o i e s h
  | .stP o i o' i' es => xS_stP cf ce E T X o i o' i' es s h
  | .aug op i e => xS_aug cf ce E T X op i e s h
  | .app o e => xS_app cf ce E T X o e s h
  | .ext i e => xS_ext cf ce E T X i e s h
  | .ret e => xS_ret cf ce E T X e s h
  | .retN => xS_retN cf ce E T X  s h
  | .if_ c a b => xS_if_ cf ce E T X c a b s h
  | .for_ tg it body => xS_for_ cf ce E T X tg it body s h
  | .forT tg it body => xS_forT cf ce E T X tg it body s h
  | .while_ m c body => xS_while_ cf ce E T X m c body s h
  | .raise_ c es => xS_raise_ cf ce E T X c es s h
  | .stD i ke e => xS_stD cf ce E T X i ke e s h
  | .spl j i => xS_spl cf ce E T X j i s h
  | .tryR e hs => xS_tryR cf ce E T X e hs s h
  | .brk => xS_brk cf ce E T X  s h
  | .cont => xS_cont cf ce E T X  s h
  | .pass => xS_pass cf ce E T X  s h
  | .junk => xS_junk cf ce E T X  s h
/-- expressions and tests, so deep -/
def evB (cf : CF) (n : Nat) : EvE × EvT := Nat.rec (motive := fun _ => EvE × EvT) (fun _ _ _ _ => .fail, fun _ _ _ _ => .fail) (fun _ p => (stepE cf p.1 p.2, stepT cf p.1 p.2)) n
theorem evB_eq (cf : CF) : ∀ n, (evB cf n).1 = (fun ce => evE cf ce n) ∧ (evB cf n).2 = (fun ce => evT cf ce n)
  | 0 => ⟨rfl, rfl⟩
  | n + 1 => by
    obtain ⟨h1, h2⟩ := evB_eq cf n
    refine ⟨?_, ?_⟩
    · funext ce m s h
      show stepE cf (evB cf n).1 (evB cf n).2 ce m s h = _
      rw [h1, h2]
      cases m <;> rfl
    · funext ce m s h
      show stepT cf (evB cf n).1 (evB cf n).2 ce m s h = _
      rw [h1, h2]
      cases m <;> rfl
def exB (cf : CF) (E : EvE) (T : EvT) (ce : List (Option Nat)) (n : Nat) : MS → SL → HH → R Fl := Nat.rec (motive := fun _ => MS → SL → HH → R Fl) (fun _ _ _ => .fail) (fun _ X => stepS cf E T ce X) n
theorem stepS_eq (cf : CF) (ce : List (Option Nat)) (n : Nat) (m : MS) (s : SL) (h : HH) : stepS cf (fun ce => evE cf ce ef) (fun ce => evT cf ce ef) ce (exS cf ce n) m s h = exS cf ce (n + 1) m s h := by
  cases m <;> kernel_rfl
theorem exB_eq (cf : CF) {E : EvE} {T : EvT} (hE : E = fun ce => evE cf ce ef) (hT : T = fun ce => evT cf ce ef) (ce : List (Option Nat)) : ∀ n, exB cf E T ce n = exS cf ce n
  | 0 => rfl
  | n + 1 => by
    have ih := exB_eq cf hE hT ce n
    subst hE hT
    funext m s h
    have e : exB cf (fun ce => evE cf ce ef) (fun ce => evT cf ce ef) ce (n + 1) m s h = stepS cf (fun ce => evE cf ce ef) (fun ce => evT cf ce ef) ce (exB cf (fun ce => evE cf ce ef) (fun ce => evT cf ce ef) ce n) m s h := rfl
    rw [e, ih]
    exact stepS_eq cf ce n m s h
def addC (n : Nat) (h : HH) : HH := match n with
  | 0 => h
  | n + 1 => h ++ List.replicate (n + 1) (.cell none)
theorem addC_eq (n : Nat) (h : HH) : addC n h = h ++ List.replicate n (.cell none) := by
  cases n with
  | zero => simp [addC]
  | succ n => rfl
def runDB (cf : CF) (d : DefR) (os : List O) (h : HH) : R O :=
  if os.length = d.np then match d.fin with
    | none => match exL (exB cf (evB cf ef).1 (evB cf ef).2 (mkCe d.cl h.length) sf) d.body (os.map some ++ List.replicate (d.ns - d.np) none) (addC (d.cl.count true) h) with
      | .ok (.ret o) s h' => .ok o [] h'
      | .ok .next s h' => .ok (.sh .non) [] h'
      | .exc c ws _ h' => .exc c ws [] h'
      | _ => .fail
    | some e => match exL (exB cf (evB cf ef).1 (evB cf ef).2 (mkCe d.cl h.length) sf) d.body (os.map some ++ List.replicate (d.ns - d.np) none) (addC (d.cl.count true) h) with
      | .ok .next s h' => match (evB cf ef).1 (mkCe d.cl h.length) e s h' with
        | .ok o s h' => leave (mkCe d.cl h.length) o s h'
        | .exc c ws _ h' => .exc c ws [] h'
        | .fail => .fail
      | .exc c ws _ h' => .exc c ws [] h'
      | _ => .fail
  else .fail
theorem runDB_eq (cf : CF) (d : DefR) (os : List O) (h : HH) : runDB cf d os h = runD cf d os h := by
  unfold runDB runD
  rw [addC_eq, exB_eq cf (evB_eq cf ef).1 (evB_eq cf ef).2, (evB_eq cf ef).1]
  all_goals rfl
def runLB (cf : CF) (d : LamR) (cs : List Nat) (os : List O) (h : HH) : R O :=
  if os.length = d.np ∧ cs.length = d.nf then match takeC cs h with
    | some (ws, h) => match (evB cf ef).1 (List.replicate d.np none ++ cs.map some) d.body (os.map some ++ (ws.map fun w => some (.sh w)) ++ List.replicate (d.ns - d.np - d.nf) none) h with
      | .ok o s h => match leaveL (List.replicate d.np none ++ cs.map some) cs s h with
        | some h => .ok o [] h
        | none => .fail
      | .exc c ws s h => match leaveL (List.replicate d.np none ++ cs.map some) cs s h with
        | some h => .exc c ws [] h
        | none => .fail
      | .fail => .fail
    | none => .fail
  else .fail
theorem runLB_eq (cf : CF) (d : LamR) (cs : List Nat) (os : List O) (h : HH) : runLB cf d cs os h = runL cf d cs os h := by
  unfold runLB runL
  rw [(evB_eq cf ef).1]
  all_goals rfl
def callDB (P : List DefR) (LL : List LamR) (n : Nat) : CF := Nat.rec (motive := fun _ => CF) (fun _ _ _ => .fail) (fun n X c os h => match c with
    | .fn f => match P[f]? with
      | some d => runDB X d os h
      | none => .fail
    | .clo l cs => match LL[l]? with
      | some d => runLB X d cs os h
      | none => .fail
    | .tok _ => .fail
    | .spl _ => splR (n + 1) os h) n
theorem callDB_eq (P : List DefR) (LL : List LamR) : ∀ n, callDB P LL n = callD P LL n
  | 0 => rfl
  | n + 1 => by
    have ih := callDB_eq P LL n
    funext c os h
    cases c with
    | fn f =>
      show (match P[f]? with
        | some d => runDB (callDB P LL n) d os h
        | none => .fail) = (match P[f]? with
        | some d => runD (callD P LL n) d os h
        | none => .fail)
      rw [ih]
      cases P[f]? with
      | none => rfl
      | some d => exact runDB_eq _ _ _ _
    | clo l cs =>
      show (match LL[l]? with
        | some d => runLB (callDB P LL n) d cs os h
        | none => .fail) = (match LL[l]? with
        | some d => runL (callD P LL n) d cs os h
        | none => .fail)
      rw [ih]
      cases LL[l]? with
      | none => rfl
      | some d => exact runLB_eq _ _ _ _ _
    | tok t => rfl
    | spl j => rfl
def callOB (tok : Nat → W) (orc : Nat → List O → Option O) (pl : Nat → Bool) (n0 : Nat) (P : List DefR) (LL : List LamR) (n : Nat) : CF := Nat.rec (motive := fun _ => CF) (callDB P LL n0) (fun n X c os h => match c with
    | .fn f => match orc f os with
      | some o => .ok o [] h
      | none => if pl f then callDB P LL (n0 + n + 1) (.fn f) os h else (match P[f]? with
        | some d => runDB X d os h
        | none => .fail)
    | .clo l cs => match LL[l]? with
      | some d => runLB X d cs os h
      | none => .fail
    | .tok t => sealO tok t os h
    | .spl _ => splR (n0 + (n + 1)) os h) n
theorem callOB_eq {tok : Nat → W} {orc : Nat → List O → Option O} {pl : Nat → Bool} {n0 : Nat} {P : List DefR} {LL : List LamR} : ∀ n, callOB tok orc pl n0 P LL n = callO tok orc pl n0 P LL n
  | 0 => callDB_eq P LL n0
  | n + 1 => by
    have ih := callOB_eq (tok := tok) (orc := orc) (pl := pl) (n0 := n0) (P := P) (LL := LL) n
    funext c os h
    cases c with
    | fn f =>
      show (match orc f os with
        | some o => R.ok o [] h
        | none => if pl f then callDB P LL (n0 + n + 1) (.fn f) os h else (match P[f]? with
          | some d => runDB (callOB tok orc pl n0 P LL n) d os h
          | none => .fail)) = (match orc f os with
        | some o => R.ok o [] h
        | none => if pl f then callD P LL (n0 + n + 1) (.fn f) os h else (match P[f]? with
          | some d => runD (callO tok orc pl n0 P LL n) d os h
          | none => .fail))
      rw [ih, callDB_eq]
      cases orc f os with
      | some o => rfl
      | none =>
        dsimp only
        by_cases hp : pl f = true
        · rw [if_pos hp, if_pos hp]
        · rw [if_neg hp, if_neg hp]
          cases P[f]? with
          | none => rfl
          | some d => exact runDB_eq _ _ _ _
    | clo l cs =>
      show (match LL[l]? with
        | some d => runLB (callOB tok orc pl n0 P LL n) d cs os h
        | none => .fail) = (match LL[l]? with
        | some d => runL (callO tok orc pl n0 P LL n) d cs os h
        | none => .fail)
      rw [ih]
      cases LL[l]? with
      | none => rfl
      | some d => exact runLB_eq _ _ _ _ _
    | tok t => rfl
    | spl j => rfl
theorem fastS {tok : Nat → W} {orc : Nat → List O → Option O} {pl : Nat → Bool} {n0 n : Nat} {P : List DefR} {LL : List LamR} (ce : List (Option Nat)) (m : Nat) :
    exB (callOB tok orc pl n0 P LL n) (evB (callOB tok orc pl n0 P LL n) ef).1 (evB (callOB tok orc pl n0 P LL n) ef).2 ce m = exS (callO tok orc pl n0 P LL n) ce m := by
  rw [← callOB_eq]
  exact exB_eq _ (evB_eq _ ef).1 (evB_eq _ ef).2 ce m
theorem exL_app {f : MS → SL → HH → R Fl} {b : List MS} : ∀ {a : List MS} {s s1 : SL} {h h1 : HH}, exL f a s h = .ok .next s1 h1 → exL f (a ++ b) s h = exL f b s1 h1
  | [], s, s1, h, h1, e => by
    cases e
    rfl
  | m :: a, s, s1, h, h1, e => by
    show (f m s h).bind _ = _
    have e : (f m s h).bind (fun fl s h => match fl with
      | .next => exL f a s h
      | fl => .ok fl s h) = _ := e
    cases hf : f m s h with
    | fail => rw [hf] at e; cases e
    | exc c ws s' h' => rw [hf] at e; cases e
    | ok fl s' h' =>
      rw [hf] at e
      cases fl with
      | next => exact exL_app (a := a) e
      | brk => cases e
      | cont => cases e
      | ret o => cases e
end Mini
set_option Elab.async false
set_option linter.all false
set_option maxRecDepth 100000
set_option maxHeartbeats 1000000
/-! Loops of refusals, turn by turn. -/
namespace Mini
/-- a loop's turns, none of which breaks off -/
def forK (tg : Tg) (body : SL → HH → R Fl) : List W → SL → HH → R Fl
  | [], s, h => .ok .next s h
  | w :: ws, s, h => match setTg s tg w with
    | none => .fail
    | some s => match body s h with
      | .ok .next s h => forK tg body ws s h
      | _ => .fail
theorem forL_go {tg : Tg} {body : SL → HH → R Fl} {w : W} {ws : List W} {s s1 s2 : SL} {h h2 : HH} {r : R Fl} (e0 : setTg s tg w = some s1) (e1 : body s1 h = .ok .next s2 h2) (e2 : forL tg [] body ws s2 h2 = r) : forL tg [] body (w :: ws) s h = r := by
  unfold forL
  rw [if_pos (show guard [] h = true from rfl), e0]
  dsimp only
  rw [e1, R.bind_ok]
  exact e2
theorem forL_end {tg : Tg} {body : SL → HH → R Fl} {s : SL} {h : HH} : forL tg [] body [] s h = .ok .next s h := by
  unfold forL
  rw [if_pos (show guard [] h = true from rfl)]
theorem forK_app {tg : Tg} {body : SL → HH → R Fl} {b : List W} : ∀ {a : List W} {s s1 : SL} {h h1 : HH}, forK tg body a s h = .ok .next s1 h1 → forL tg [] body (a ++ b) s h = forL tg [] body b s1 h1
  | [], s, s1, h, h1, e => by
    cases e
    rfl
  | w :: a, s, s1, h, h1, e => by
    unfold forK at e
    split at e
    · cases e
    · rename_i s2 e0
      split at e
      · rename_i s3 h3 e1
        exact forL_go (ws := a ++ b) e0 e1 (forK_app e)
      · cases e
/-- turns that leave the heap as it was -/
theorem forL_all {tg : Tg} {body : SL → HH → R Fl} {P : SL → Prop} {h : HH} : ∀ (ws : List W), (∀ w ∈ ws, ∀ s, P s → ∃ s1 s2, setTg s tg w = some s1 ∧ body s1 h = .ok .next s2 h ∧ P s2) → ∀ s, P s → ∃ s', P s' ∧ forL tg [] body ws s h = .ok .next s' h
  | [], _, s, hp => ⟨s, hp, forL_end⟩
  | w :: ws, H, s, hp => by
    obtain ⟨s1, s2, e0, e1, hp2⟩ := H w List.mem_cons_self s hp
    obtain ⟨s', hp3, e2⟩ := forL_all ws (fun w hw => H w (List.mem_cons_of_mem _ hw)) s2 hp2
    exact ⟨s', hp3, forL_go e0 e1 e2⟩
/-- a whole loop out of its list and its turns -/
theorem forT_go {cf : CF} {E : EvE} {T : EvT} {ce : List (Option Nat)} {n : Nat} {tg : Tg} {it : IT} {body : List MS} {s s1 s2 : SL} {h h1 h2 : HH} {ws : List W} (e0 : itE (E ce) it s h = .ok ⟨ws, []⟩ s1 h1)
    (e1 : forL tg [] (backB (exL (exB cf E T ce n) body)) ws s1 h1 = .ok .next s2 h2) : exL (exB cf E T ce (n + 1)) [.forT tg it body] s h = .ok .next s2 h2 := by
  show ((exB cf E T ce (n + 1)) (.forT tg it body) s h).bind _ = _
  have e : exB cf E T ce (n + 1) (.forT tg it body) s h = .ok .next s2 h2 := by
    show (itE (E ce) it s h).bind (fun k s h => forL tg k.gs (backB (exL (exB cf E T ce n) body)) k.ws s h) = _
    rw [e0]
    exact e1
  rw [e]
  rfl
theorem s_forT {cf : CF} {ce : List (Option Nat)} {n : Nat} {tg : Tg} {it : IT} {body : List MS} {s s1 : SL} {h h1 : HH} {ws : List W} {r : R Fl} (e : itE (evE cf ce ef) it s h = .ok ⟨ws, []⟩ s1 h1) (e2 : forL tg [] (backB (exL (exS cf ce n) body)) ws s1 h1 = r) : exS cf ce (n + 1) (.forT tg it body) s h = r := by
  show (itE (evE cf ce ef) it s h).bind _ = _
  rw [e]
  exact e2
def lpTg : MS → Tg
  | .forT tg _ _ => tg
  | _ => .skip
def lpIt : MS → IT
  | .forT _ it _ => it
  | _ => .seq (.cst .non)
def lpBd : MS → List MS
  | .forT _ _ b => b
  | _ => []
theorem forT_ck {cf : CF} {E : EvE} {T : EvT} {ce : List (Option Nat)} {m n : Nat} {st : MS} {ck : List MS} {s s1 s2 : SL} {h h1 h2 : HH} {ws : List W} (hm : m = n + 1) (hc : ck = [.forT (lpTg st) (lpIt st) (lpBd st)]) (e0 : itE (E ce) (lpIt st) s h = .ok ⟨ws, []⟩ s1 h1)
    (e1 : forL (lpTg st) [] (backB (exL (exB cf E T ce n) (lpBd st))) ws s1 h1 = .ok .next s2 h2) : exL (exB cf E T ce m) ck s h = .ok .next s2 h2 := by
  subst hm hc
  exact forT_go e0 e1
end Mini
set_option Elab.async false
set_option linter.all false
set_option maxRecDepth 100000
set_option maxHeartbeats 0
namespace Mini
open PySem PySem.Spec PyProof.Rows L2
namespace Lk76
def d0 : DefR := ⟨1, 1, [false], [.ret (.isty [.list, .tuple] (.var 0))], none⟩ -- is_list
def d1 : DefR := ⟨1, 1, [false], [.ret (.and_ [.isty [.int] (.var 0), .not_ (.isty [.bool] (.var 0))])], none⟩ -- is_whole
def d2 : DefR := ⟨1, 1, [false], [.ret (.and_ [.call 1 [.var 0] [], .cmp .ge (.var 0) (.cst (.int 0))])], none⟩ -- is_number
def d3 : DefR := ⟨2, 2, [false, false], [.ret (.and_ [.call 2 [.var 0] [], .cmp .lt (.var 0) (.var 1)])], none⟩ -- is_below
def d4 : DefR := ⟨2, 2, [false, false], [.ret (.and_ [.call 0 [.var 0] [], .cmp .eq (.bi .len [.var 0]) (.var 1)])], none⟩ -- is_row
def d5 : DefR := ⟨1, 2, [false, false], [.if_ (.or_ [.not_ (.call 0 [.var 0] []), .not_ (.bi .all [.comp [1] (.one 1) (.seq (.var 0)) none (.call 3 [.var 1, .bi .len [.var 0]] [])])]) [.ret (.cst .non)] [], .ret (.ite (.cmp .eq (.lset (.var 0)) (.bi .len [.var 0])) (.bi .tuple [.var 0]) (.cst .non))], none⟩ -- kept_order
def d6 : DefR := ⟨1, 2, [false, false], [.set 1 (.call 5 [.var 0] []), .if_ (.isn false (.var 1)) [.raise_ 0 [.var 0]] [], .ret (.mv 1)], none⟩ -- need_order
def d7 : DefR := ⟨1, 4, [false, false, false, false], [.set 1 (.bin .mul (.lst [.cst (.int 0)]) (.bi .len [.var 0])), .for_ (.many [2, 3]) (.enum (.var 0)) [.stI (.var 1) (.var 3) (.var 2)], .ret (.btup (.mv 1))], none⟩ -- inverse_of
def d8 : DefR := ⟨2, 5, [false, false, false, false, false], [.if_ (.or_ [.not_ (.call 2 [.var 0] []), .cmp .eq (.bin .mod (.var 0) (.cst (.int 2))) (.cst (.int 1))]) [.raise_ 7 [.var 0]] [], .if_ (.not_ (.isty [.bool] (.var 1))) [.raise_ 8 [.var 1]] [], .par [3, 4] [.lst [], .bin .fdiv (.var 0) (.cst (.int 2))], .for_ (.one 2) (.rng1 (.var 4)) [.ext 3 (.ite (.var 1) (.lst [.bin .add (.var 4) (.var 2), .var 2]) (.lst [.var 2, .bin .add (.var 4) (.var 2)]))], .ret (.mv 3)], none⟩ -- perfect
def d9 : DefR := ⟨2, 4, [false, false, false, false], [.par [2, 3] [.var 0, .var 1], .while_ wh (.var 3) [.par [2, 3] [.var 3, .bin .mod (.var 2) (.var 3)]], .ret (.bin .mul (.bin .fdiv (.var 0) (.var 2)) (.var 1))], none⟩ -- multiple
def d10 : DefR := ⟨1, 7, [false, false, false, false, false, false, false], [.set 1 (.call 6 [.var 0] []), .par [3, 4] [.cst (.int 1), .dnew false], .for_ (.one 2) (.rng1 (.bi .len [.var 1])) [.par [5, 6] [.cst (.int 0), .var 2], .while_ wh (.cmp .notin (.var 6) (.var 4)) [.stD 4 (.var 6) (.cst (.bl true)), .par [5, 6] [.bin .add (.var 5) (.cst (.int 1)), .idx (.var 1) (.var 6)]], .set 3 (.call 9 [.mv 3, .bi .max2 [.cst (.int 1), .var 5]] [])], .ret (.mv 3)], none⟩ -- back_after
def d11 : DefR := ⟨1, 2, [false, false], [.if_ (.cmp .eq (.bi .len [.var 0]) (.cst (.int 0))) [.ret (.cst .non)] [], .set 1 (.index (.bi .list [.var 0]) (.bi .min1 [.var 0])), .ret (.tup [.idx (.var 0) (.var 1), .call 11 [.slc (.var 0) none (some (.var 1))] [], .call 11 [.slc (.var 0) (some (.bin .add (.var 1) (.cst (.int 1)))) none] []])], none⟩ -- heap_by
def d12 : DefR := ⟨1, 1, [false], [.ret (.call 11 [.call 6 [.var 0] []] [])], none⟩ -- heap_of
def d13 : DefR := ⟨1, 3, [false, false, false], [.if_ (.isn false (.var 0)) [.ret (.lst [])] [], .if_ (.or_ [.not_ (.call 4 [.var 0, .cst (.int 3)] []), .not_ (.call 1 [.idx (.var 0) (.cst (.int 0))] [])]) [.ret (.cst .non)] [], .par [1, 2] [.call 13 [.idx (.var 0) (.cst (.int 1))] [], .call 13 [.idx (.var 0) (.cst (.int 2))] []], .ret (.ite (.or_ [.isn false (.var 1), .isn false (.var 2)]) (.cst .non) (.lstS [(true, .mv 1), (false, .idx (.var 0) (.cst (.int 0))), (true, .mv 2)]))], none⟩ -- read_off
def d14 : DefR := ⟨1, 1, [false], [.ret (.ite (.isn false (.var 0)) (.cst .non) (.tup [.idx (.var 0) (.cst (.int 0)), .call 14 [.idx (.var 0) (.cst (.int 1))] [], .call 14 [.idx (.var 0) (.cst (.int 2))] []]))], none⟩ -- told_tree
def d15 : DefR := ⟨1, 3, [false, false, false], [.set 1 (.call 13 [.var 0] []), .set 2 (.ite (.isn false (.var 1)) (.cst .non) (.call 5 [.mv 1] [])), .ret (.ite (.and_ [.isn true (.var 2), .cmp .eq (.call 11 [.var 2] []) (.call 14 [.var 0] [])]) (.mv 2) (.cst .non))], none⟩ -- heap_order
def d16 : DefR := ⟨1, 2, [false, false], [.set 1 (.call 15 [.var 0] []), .if_ (.isn false (.var 1)) [.raise_ 5 [.var 0]] [], .ret (.bi .list [.var 1])], none⟩ -- order_of_heap
def d17 : DefR := ⟨1, 3, [false, false, false], [.set 1 (.call 6 [.var 0] []), .ret (.bi .sum [.comp [2] (.one 2) (.rng1 (.bin .sub (.bi .len [.var 1]) (.cst (.int 1)))) (some (.cmp .gt (.idx (.var 1) (.var 2)) (.idx (.var 1) (.bin .add (.var 2) (.cst (.int 1)))))) (.bin .add (.var 2) (.cst (.int 1)))])], none⟩ -- major_of
def d18 : DefR := ⟨3, 3, [false, false, false], [.ret (.ite (.var 2) (.cmp .lt (.var 0) (.var 1)) (.cmp .gt (.var 0) (.var 1)))], none⟩ -- is_cut
def d19 : DefR := ⟨2, 5, [false, false, false, false, false], [.par [3, 4] [.lst [], .lst []], .for_ (.one 2) (.seq (.var 0)) [.app (.var 4) (.var 2), .if_ (.call 18 [.var 2, .var 1, .cmp .lt (.idx (.var 0) (.neg (.cst (.int 1)))) (.var 1)] []) [.ext 3 (.lstS [(false, .idx (.var 4) (.neg (.cst (.int 1)))), (true, .slc (.var 4) none (some (.neg (.cst (.int 1)))))]), .set 4 (.lst [])] []], .ret (.lstS [(true, .mv 3), (false, .var 1)])], none⟩ -- put_behind
def d20 : DefR := ⟨1, 3, [false, false, false], [.set 1 (.lst []), .for_ (.one 2) (.seq (.call 6 [.var 0] [])) [.set 1 (.call 19 [.mv 1, .var 2] [])], .ret (.mv 1)], none⟩ -- to_crossed
def d21 : DefR := ⟨1, 6, [false, false, false, false, false, false], [.par [2, 3] [.idx (.var 0) (.neg (.cst (.int 1))), .slc (.var 0) none (some (.neg (.cst (.int 1))))], .par [4, 5] [.lst [], .lst []], .for_ (.one 1) (.seq (.var 3)) [.if_ (.and_ [.call 18 [.var 1, .var 2, .cmp .lt (.idx (.var 3) (.cst (.int 0))) (.var 2)] [], .var 5]) [.ext 4 (.lstS [(true, .slc (.var 5) (some (.cst (.int 1))) none), (false, .idx (.var 5) (.cst (.int 0)))]), .set 5 (.lst [])] [], .app (.var 5) (.var 1)], .ret (.bin .add (.var 4) (.ite (.var 5) (.lstS [(true, .slc (.var 5) (some (.cst (.int 1))) none), (false, .idx (.var 5) (.cst (.int 0)))]) (.lst [])))], none⟩ -- taken_off
def d22 : DefR := ⟨1, 3, [false, false, false], [.par [1, 2] [.bi .list [.call 6 [.var 0] []], .lst []], .while_ wh (.var 1) [.app (.var 2) (.idx (.var 1) (.neg (.cst (.int 1)))), .set 1 (.call 21 [.mv 1] [])], .ret (.rev (.var 2))], none⟩ -- from_crossed
def d23 : DefR := ⟨1, 1, [false], [.if_ (.not_ (.call 2 [.var 0] [])) [.raise_ 1 [.var 0]] []], none⟩ -- check_size
def d24 : DefR := ⟨1, 3, [false, false, false], [.set 1 (.cst (.int 1)), .for_ (.one 2) (.rng2 (.cst (.int 2)) (.bin .add (.var 0) (.cst (.int 1)))) [.set 1 (.bin .mul (.var 1) (.var 2))], .ret (.mv 1)], none⟩ -- factorial
def d25 : DefR := ⟨2, 6, [false, false, false, false, false, false], [.par [3, 4] [.lrng (.var 0), .lst []], .for_ (.one 2) (.rng1 (.var 0)) [.set 5 (.call 24 [.bin .sub (.bin .sub (.var 0) (.cst (.int 1))) (.var 2)] []), .app (.var 4) (.popi (.var 3) (.bin .fdiv (.var 1) (.var 5))), .set 1 (.bin .mod (.var 1) (.var 5))], .ret (.btup (.mv 4))], none⟩ -- order_by
def d26 : DefR := ⟨1, 2, [false, false], [.ret (.comp [1] (.one 1) (.rng1 (.call 24 [.var 0] [])) none (.call 25 [.var 0, .var 1] []))], none⟩ -- orders_of
def d27 : DefR := ⟨1, 1, [false], [.ret (.call 28 [.call 11 [.call 7 [.var 0] []] [], .var 0] [])], none⟩ -- tree_by
def d28 : DefR := ⟨2, 2, [false, false], [.ret (.ite (.isn false (.var 0)) (.cst .non) (.tup [.idx (.var 1) (.idx (.var 0) (.cst (.int 0))), .call 28 [.idx (.var 0) (.cst (.int 1)), .var 1] [], .call 28 [.idx (.var 0) (.cst (.int 2)), .var 1] []]))], none⟩ -- named
def d29 : DefR := ⟨1, 1, [false], [.ret (.call 27 [.call 6 [.var 0] []] [])], none⟩ -- search_tree
def d30 : DefR := ⟨1, 2, [false, false], [.set 1 (.call 13 [.var 0] []), .ret (.ite (.or_ [.isn false (.var 1), .cmp .ne (.var 1) (.lrng (.bi .len [.var 1]))]) (.cst .non) (.bi .len [.var 1]))], none⟩ -- tree_row
def d31 : DefR := ⟨1, 1, [false], [.if_ (.isn false (.call 30 [.var 0] [])) [.raise_ 3 [.var 0]] [], .ret (.call 14 [.var 0] [])], none⟩ -- need_tree
def d32 : DefR := ⟨1, 3, [false, false, false], [.if_ (.isn false (.var 0)) [.ret (.lst [])] [], .par [1, 2] [.call 32 [.idx (.var 0) (.cst (.int 1))] [], .call 32 [.idx (.var 0) (.cst (.int 2))] []], .ret (.lstS [(true, .var 1), (true, .var 2), (false, .bin .add (.bin .add (.bi .len [.var 1]) (.bi .len [.var 2])) (.cst (.int 1)))])], none⟩ -- sizes_in
def d33 : DefR := ⟨1, 4, [false, false, false, false], [.set 1 (.call 32 [.call 31 [.var 0] []] []), .set 2 (.call 24 [.bi .len [.var 1]] []), .for_ (.one 3) (.seq (.mv 1)) [.set 2 (.bin .fdiv (.var 2) (.var 3))], .ret (.mv 2)], none⟩ -- same_tree
def d34 : DefR := ⟨1, 3, [false, false, false], [.set 1 (.call 31 [.var 0] []), .ret (.comp [2] (.one 2) (.seq (.call 26 [.bi .len [.call 32 [.var 1] []]] [])) (some (.cmp .eq (.call 27 [.var 2] []) (.var 1))) (.bi .list [.var 2]))], none⟩ -- all_with_tree
def d35 : DefR := ⟨1, 4, [false, false, false, false], [.par [1, 2] [.lst [], .lst [.call 31 [.var 0] []]], .while_ wh (.var 2) [.set 3 (.pop (.var 2)), .if_ (.isn true (.var 3)) [.app (.var 1) (.idx (.var 3) (.cst (.int 0))), .ext 2 (.lst [.idx (.var 3) (.cst (.int 2)), .idx (.var 3) (.cst (.int 1))])] []], .ret (.mv 1)], none⟩ -- first_with_tree
def d36 : DefR := ⟨1, 1, [false], [.ret (.ite (.isn false (.var 0)) (.cst (.int 0)) (.bin .add (.cst (.int 1)) (.bi .max2 [.call 36 [.idx (.var 0) (.cst (.int 1))] [], .call 36 [.idx (.var 0) (.cst (.int 2))] []])))], none⟩ -- height_by
def d37 : DefR := ⟨1, 1, [false], [.ret (.call 36 [.call 27 [.call 6 [.var 0] []] []] [])], none⟩ -- height_of
def d38 : DefR := ⟨1, 5, [false, false, false, false, false], [.set 1 (.lst [.lst [.cst (.int 1)]]), .for_ (.one 2) (.rng2 (.cst (.int 1)) (.bin .add (.var 0) (.cst (.int 1)))) [.set 3 (.idx (.var 1) (.neg (.cst (.int 1)))), .app (.var 1) (.bin .add (.bin .add (.lst [.cst (.int 1)]) (.comp [4] (.one 4) (.rng1 (.bin .sub (.var 2) (.cst (.int 1)))) none (.bin .add (.idx (.var 3) (.var 4)) (.idx (.var 3) (.bin .add (.var 4) (.cst (.int 1))))))) (.lst [.cst (.int 1)]))], .ret (.mv 1)], none⟩ -- choices
def d39 : DefR := ⟨1, 9, [false, false, false, false, false, false, false, false, false], [.expr (.call 23 [.var 0] []), .unp [3, 4] (.tup [.call 38 [.var 0] [], .bin .add (.lst [.cst (.int 1)]) (.bin .mul (.lst [.cst (.int 0)]) (.var 0))]), .set 1 (.lst [.idx (.var 4) (.var 0)]), .for_ (.one 2) (.rng1 (.var 0)) [.set 5 (.lst [.cst (.int 1)]), .for_ (.one 6) (.rng2 (.cst (.int 1)) (.bin .add (.var 0) (.cst (.int 1)))) [.set 7 (.comp [8] (.one 8) (.rng1 (.var 6)) none (.bin .mul (.bin .mul (.idx (.idx (.var 3) (.bin .sub (.var 6) (.cst (.int 1)))) (.var 8)) (.idx (.var 4) (.var 8))) (.idx (.var 4) (.bin .sub (.bin .sub (.var 6) (.cst (.int 1))) (.var 8))))), .app (.var 5) (.bi .sum [.var 7])], .app (.var 1) (.bin .sub (.idx (.var 5) (.var 0)) (.idx (.var 4) (.var 0))), .set 4 (.mv 5)], .ret (.mv 1)], none⟩ -- height_counts
def d40 : DefR := ⟨2, 2, [false, false], [.par [0, 1] [.bi .abs [.var 0], .bi .abs [.var 1]], .while_ wh (.var 1) [.par [0, 1] [.var 1, .bin .mod (.var 0) (.var 1)]], .ret (.mv 0)], none⟩ -- common_divisor
def d41 : DefR := ⟨2, 3, [false, false, false], [.set 2 (.call 40 [.var 0, .var 1] []), .if_ (.cmp .lt (.var 1) (.cst (.int 0))) [.set 2 (.neg (.var 2))] [], .ret (.tup [.bin .fdiv (.var 0) (.var 2), .bin .fdiv (.var 1) (.var 2)])], none⟩ -- reduced
def d42 : DefR := ⟨1, 2, [false, false], [.set 1 (.call 5 [.var 0] []), .if_ (.not_ (.var 1)) [.raise_ 0 [.var 0]] [], .ret (.mv 1)], none⟩ -- need_some
def d43 : DefR := ⟨1, 3, [false, false, false], [.ret (.comp [1, 2] (.many [1, 2]) (.zip (.var 0) (.slc (.var 0) (some (.cst (.int 1))) none)) none (.cmp .lt (.var 1) (.var 2)))], none⟩ -- steps_of
def d44 : DefR := ⟨1, 1, [false], [.ret (.call 43 [.call 42 [.var 0] []] [])], none⟩ -- shape_of
def d45 : DefR := ⟨1, 2, [false, false], [.if_ (.or_ [.not_ (.call 0 [.var 0] []), .not_ (.bi .all [.comp [1] (.one 1) (.seq (.var 0)) none (.isty [.bool] (.var 1))])]) [.raise_ 4 [.var 0]] [], .ret (.bi .list [.var 0])], none⟩ -- need_shape
def d46 : DefR := ⟨1, 5, [false, false, false, false, false], [.set 1 (.lst [.cst (.int 1)]), .for_ (.one 2) (.seq (.call 45 [.var 0] [])) [.set 3 (.bi .len [.var 1]), .set 1 (.comp [4] (.one 4) (.rng1 (.bin .add (.var 3) (.cst (.int 1)))) none (.bi .sum [.ite (.var 2) (.slc (.var 1) none (some (.var 4))) (.slc (.var 1) (some (.var 4)) none)]))], .ret (.bi .sum [.var 1])], none⟩ -- how_many_of
def d47 : DefR := ⟨1, 3, [false, false, false], [.set 1 (.call 45 [.var 0] []), .ret (.comp [2] (.one 2) (.seq (.call 26 [.bin .add (.bi .len [.var 1]) (.cst (.int 1))] [])) (some (.cmp .eq (.call 43 [.var 2] []) (.var 1))) (.bi .list [.var 2]))], none⟩ -- all_of_shape
def d48 : DefR := ⟨1, 6, [false, false, false, false, false, false], [.set 1 (.call 45 [.var 0] []), .par [3, 4] [.lst [], .cst (.int 0)], .for_ (.one 2) (.seq (.lstS [(true, .mv 1), (false, .cst (.bl true))])) [.if_ (.var 2) [.set 5 (.bi .len [.var 3]), .ext 3 (.rev (.lrng2 (.var 5) (.bin .add (.bin .add (.var 5) (.var 4)) (.cst (.int 1))))), .set 4 (.cst (.int 0))] [.set 4 (.bin .add (.var 4) (.cst (.int 1)))]], .ret (.mv 3)], none⟩ -- first_of_shape
def d49 : DefR := ⟨1, 1, [false], [.if_ (.or_ [.not_ (.call 1 [.var 0] []), .cmp .lt (.var 0) (.cst (.int 1))]) [.raise_ 1 [.var 0]] []], none⟩ -- check_some
def d50 : DefR := ⟨1, 6, [false, false, false, false, false, false], [.set 1 (.lst [.cst (.int 1)]), .for_ (.one 2) (.rng2 (.cst (.int 2)) (.bin .add (.var 0) (.cst (.int 1)))) [.set 3 (.lst []), .for_ (.one 4) (.rng1 (.var 2)) [.set 5 (.ite (.cmp .lt (.var 4) (.bi .len [.var 1])) (.bin .mul (.bin .add (.var 4) (.cst (.int 1))) (.idx (.var 1) (.var 4))) (.cst (.int 0))), .app (.var 3) (.bin .add (.var 5) (.ite (.cmp .gt (.var 4) (.cst (.int 0))) (.bin .mul (.bin .sub (.var 2) (.var 4)) (.idx (.var 1) (.bin .sub (.var 4) (.cst (.int 1))))) (.cst (.int 0))))], .set 1 (.mv 3)], .ret (.mv 1)], none⟩ -- falls_by
def d51 : DefR := ⟨1, 1, [false], [.expr (.call 49 [.var 0] []), .ret (.call 50 [.var 0] [])], none⟩ -- fall_counts
def d52 : DefR := ⟨1, 7, [false, false, false, false, false, false, false], [.expr (.call 49 [.var 0] []), .set 1 (.lst [.cst (.int 1)]), .for_ (.one 2) (.rng2 (.cst (.int 2)) (.bin .add (.var 0) (.cst (.int 1)))) [.set 3 (.bin .mul (.lst [.cst (.int 0)]) (.bin .sub (.bin .add (.bi .len [.var 1]) (.var 2)) (.cst (.int 1)))), .for_ (.many [4, 5]) (.enum (.mv 1)) [.for_ (.one 6) (.rng1 (.var 2)) [.stI (.var 3) (.bin .add (.var 4) (.var 6)) (.bin .add (.idx (.var 3) (.bin .add (.var 4) (.var 6))) (.var 5))]], .set 1 (.mv 3)], .ret (.mv 1)], none⟩ -- crossed_counts
def d53 : DefR := ⟨1, 2, [false, false], [.expr (.call 49 [.var 0] []), .ret (.call 46 [.comp [1] (.one 1) (.rng1 (.bin .sub (.var 0) (.cst (.int 1)))) none (.cmp .eq (.bin .mod (.var 1) (.cst (.int 2))) (.cst (.int 0)))] [])], none⟩ -- zigzags
def d54 : DefR := ⟨1, 5, [true, false, false, false, false], [.if_ (.or_ [.not_ (.call 0 [.var 0] []), .not_ (.bi .all [.comp [4] (.one 4) (.seq (.var 0)) none (.call 2 [.var 4] [])])]) [.raise_ 6 [.var 0]] [], .set 1 (.bin .mul (.lst [.cst (.int 0)]) (.bi .len [.var 0])), .junk, .ret (.mv 1)], none⟩ -- shuffled
def d55 : DefR := ⟨1, 1, [false], [.if_ (.or_ [.not_ (.call 1 [.var 0] []), .cmp .lt (.var 0) (.cst (.int 1))]) [.raise_ 2 [.var 0]] []], none⟩ -- check_piles
def d56 : DefR := ⟨2, 4, [false, false, false, false], [.set 2 (.cst (.int 1)), .for_ (.one 3) (.rng1 (.var 1)) [.set 2 (.bin .fdiv (.bin .mul (.var 2) (.bin .sub (.var 0) (.var 3))) (.bin .add (.var 3) (.cst (.int 1))))], .ret (.ite (.cmp .ge (.var 0) (.var 1)) (.mv 2) (.cst (.int 0)))], none⟩ -- choose
def d57 : DefR := ⟨1, 4, [false, false, false, false], [.set 1 (.call 7 [.var 0] []), .ret (.bi .len [.comp [2, 3] (.many [2, 3]) (.zip (.var 1) (.slc (.var 1) (some (.cst (.int 1))) none)) (some (.cmp .gt (.var 2) (.var 3))) (.var 2)])], none⟩ -- breaks_of
def d58 : DefR := ⟨3, 3, [false, false, false], [.ret (.ite (.cmp .gt (.var 2) (.var 1)) (.call 56 [.bin .add (.bin .sub (.bin .sub (.var 2) (.var 1)) (.cst (.int 1))) (.var 0), .var 0] []) (.cst (.int 0)))], none⟩ -- ways_by
def d59 : DefR := ⟨2, 3, [false, false, false], [.set 2 (.call 6 [.var 0] []), .expr (.call 55 [.var 1] []), .ret (.call 58 [.bi .len [.var 2], .call 57 [.mv 2] [], .var 1] [])], none⟩ -- ways_to
def d60 : DefR := ⟨1, 2, [false, false], [.set 1 (.call 5 [.var 0] []), .if_ (.not_ (.var 1)) [.raise_ 0 [.var 0]] [], .ret (.bin .add (.call 57 [.mv 1] []) (.cst (.int 1)))], none⟩ -- least_piles
def d61 : DefR := ⟨2, 4, [false, false, false, false], [.set 2 (.cst (.int 1)), .for_ (.one 3) (.rng1 (.var 1)) [.set 2 (.bin .mul (.var 2) (.var 0))], .ret (.mv 2)], none⟩ -- power
def d62 : DefR := ⟨2, 3, [false, false, false], [.set 2 (.call 6 [.var 0] []), .expr (.call 55 [.var 1] []), .ret (.call 41 [.call 58 [.bi .len [.var 2], .call 57 [.var 2] [], .var 1] [], .call 61 [.var 1, .bi .len [.var 2]] []] [])], none⟩ -- chance_of
def d63 : DefR := ⟨2, 8, [false, false, false, false, false, false, false, false], [.expr (.call 23 [.var 0] []), .expr (.call 55 [.var 1] []), .unp [4, 5] (.tup [.call 61 [.var 1, .var 0] [], .call 24 [.var 0] []]), .set 2 (.ite (.cmp .gt (.var 0) (.cst (.int 0))) (.call 50 [.var 0] []) (.lst [.cst (.int 1)])), .set 3 (.bi .sum [.comp [6, 7] (.many [6, 7]) (.enum (.mv 2)) none (.bin .mul (.var 7) (.bi .abs [.bin .sub (.bin .mul (.call 58 [.var 0, .var 6, .var 1] []) (.var 5)) (.var 4)]))]), .ret (.call 41 [.mv 3, .bin .mul (.bin .mul (.cst (.int 2)) (.var 4)) (.var 5)] [])], none⟩ -- unevenness
def d64 : DefR := ⟨1, 1, [false], [.ret (.prom (.lst [.prom (.bi .list [.var 0]), .cst (.int 0), .cst (.int 0), .cst (.int 17)]))], none⟩ -- _law_stream
def d65 : DefR := ⟨2, 5, [false, false, false, false, false], [.stI (.var 0) (.cst (.int 2)) (.bin .add (.idx (.var 0) (.cst (.int 2))) (.cst (.int 1))), .while_ wh (.and_ [.cmp .eq (.idx (.var 0) (.cst (.int 1))) (.cst (.int 0)), .cmp .ne (.idx (.var 0) (.cst (.int 0))) (.lst [])]) [.set 3 (.bi .abs [.popi (.idx (.var 0) (.cst (.int 0))) (.cst (.int 0))]), .stI (.var 0) (.cst (.int 3)) (.bin .mod (.bi .int [.bin .add (.bin .add (.bin .mul (.idx (.var 0) (.cst (.int 3))) (.cst (.int 8191))) (.var 3)) (.cst (.int 3))]) (.cst (.int 2147483647))), .stI (.var 0) (.cst (.int 1)) (.ite (.cmp .ge (.var 3) (.bin .pow (.cst (.int 10)) (.cst (.int 18)))) (.mv 3) (.cst (.int 0)))], .if_ (.cmp .gt (.idx (.var 0) (.cst (.int 1))) (.cst (.int 0))) [.set 4 (.bin .mod (.bi .int [.idx (.var 0) (.cst (.int 1))]) (.var 1)), .stI (.var 0) (.cst (.int 1)) (.bin .fdiv (.idx (.var 0) (.cst (.int 1))) (.mv 1)), .ret (.mv 4)] [], .set 2 (.bin .mod (.bi .int [.bin .pow (.bin .add (.bin .add (.idx (.var 0) (.cst (.int 3))) (.bin .mul (.cst (.int 7919)) (.idx (.var 0) (.cst (.int 2))))) (.cst (.int 104729))) (.cst (.int 5))]) (.cst (.int 2147483629))), .ret (.bin .mod (.bin .mod (.bi .int [.bin .pow (.bin .add (.bin .add (.bin .mul (.mv 2) (.cst (.int 48271))) (.bin .mul (.cst (.int 30011)) (.idx (.mv 0) (.cst (.int 2))))) (.cst (.int 29))) (.cst (.int 3))]) (.cst (.int 1000000007))) (.mv 1))], none⟩ -- _law_draw
def d66 : DefR := ⟨2, 5, [false, false, false, false, false], [.par [3, 4] [.bi .list [.mv 1], .lst []], .for_ (.one 2) (.rng1 (.bi .len [.var 3])) [.app (.var 4) (.popi (.var 3) (.call 65 [.var 0, .bi .len [.var 3]] []))], .ret (.mv 4)], none⟩ -- _law_mixed
def d67 : DefR := ⟨2, 4, [false, false, false, false], [.if_ (.isty [.list, .tuple] (.var 1)) [.if_ (.or_ [.cmp .ne (.isty [.list] (.var 0)) (.isty [.list] (.var 1)), .cmp .ne (.isty [.tuple] (.var 0)) (.isty [.tuple] (.var 1))]) [.ret (.cst (.bl false))] [], .ret (.and_ [.cmp .eq (.bi .len [.var 0]) (.bi .len [.var 1]), .bi .all [.comp [2, 3] (.many [2, 3]) (.zip (.var 0) (.var 1)) none (.call 67 [.var 2, .var 3] [])]])] [], .if_ (.isty [.dict] (.var 1)) [.ret (.and_ [.isty [.dict] (.var 0), .call 67 [.shr (.items (.var 0)), .shr (.items (.var 1))] []])] [], .if_ (.or_ [.isty [.bool] (.var 1), .isty [.bool] (.var 0)]) [.ret (.and_ [.isty [.bool] (.var 1), .isty [.bool] (.var 0), .cmp .eq (.var 0) (.var 1)])] [], .if_ (.or_ [.isn false (.var 1), .isn false (.var 0)]) [.ret (.and_ [.isn false (.var 1), .isn false (.var 0)])] [], .if_ (.or_ [.cmp .ne (.isty [.int] (.var 1)) (.isty [.int] (.var 0)), .cmp .ne (.isty [.str] (.var 1)) (.isty [.str] (.var 0))]) [.ret (.cst (.bl false))] [], .ret (.and_ [.not_ (.isty [.list, .tuple, .dict] (.var 0)), .cmp .eq (.var 0) (.var 1)])], none⟩ -- _law_same
def d68 : DefR := ⟨2, 4, [false, true, true, false], [.set 2 (.prom (.lst [.cst (.str [111, 100, 100])])), .set 3 (.call 72 [.lam 0 [1, 2]] []), .app (.var 2) (.cst (.str [108, 97, 116, 101])), .ret (.call 67 [.mv 3, .shr (.tup [.var 0, .var 2])] [])], none⟩ -- _law_is_very
def d69 : DefR := ⟨2, 2, [false, false], [.ret (.call 66 [.mv 0, .lrng (.mv 1)] [])], none⟩ -- _law_order
def d70 : DefR := ⟨3, 5, [false, false, false, true, false], [.forT (.one 3) (.seq (.var 2)) [.if_ (.or_ [.not_ (.bi .all [.compX [4] (.one 4) (.seq (.var 1)) none (.call 67 [.shr (.call 72 [.lam 1 [3, 4]] []), .shr (.tup [.var 0, .var 4])] []) [3] [4]]), .not_ (.call 68 [.var 0, .var 3] [])]) [.ret (.cst (.bl false))] []], .ret (.cst (.bl true))], none⟩ -- _law_all_refused
def d71 : DefR := ⟨0, 0, [], [.ret (.lst [.cst .non, .cst (.int 5), .cst (.str [48, 49]), .dnew false, .lst [.cst (.int 1)], .lst [.cst (.int 0), .cst (.int 0)], .lst [.cst (.int 0), .cst (.int 2)], .lst [.cst (.int 0), .cst (.bl true)], .lst [.neg (.cst (.int 1)), .cst (.int 0)], .lst [.lst [.cst (.int 0)]], .lst [.cst (.int 0), .cst (.str [49])], .lst [.cst .non]])], none⟩ -- _law_odd_orders
def d72 : DefR := ⟨1, 2, [false, false], [.tryR (.tup [.cst (.str [116, 111, 108, 100]), .callv (.var 0) []]) [(7, (.str [101, 118, 101, 110]), true), (5, (.str [104, 101, 97, 112]), true), (8, (.str [105, 115, 95, 105, 110]), true), (2, (.str [109, 97, 110, 121]), true), (0, (.str [111, 114, 100, 101, 114]), true), (6, (.str [112, 105, 108, 101, 115]), true), (1, (.str [115, 105, 122, 101]), true), (4, (.str [115, 104, 97, 112, 101]), true), (3, (.str [116, 114, 101, 101]), true)]], none⟩ -- _law_met
def d73 : DefR := ⟨1, 5, [false, false, false, false, true], [.set 1 (.call 64 [.mv 0] []), .set 2 (.lst [.lam 2 []]), .app (.var 2) (.lam 3 []), .app (.var 2) (.lam 4 []), .app (.var 2) (.lam 5 []), .app (.var 2) (.lam 6 []), .app (.var 2) (.lam 7 []), .app (.var 2) (.lam 8 []), .app (.var 2) (.lam 9 []), .app (.var 2) (.lam 10 []), .if_ (.not_ (.call 70 [.cst (.str [111, 114, 100, 101, 114]), .call 71 [] [], .mv 2] [])) [.ret (.cst (.bl false))] [], .set 2 (.lst [.lam 11 []]), .app (.var 2) (.lam 12 []), .if_ (.not_ (.call 70 [.cst (.str [111, 114, 100, 101, 114]), .bin .add (.call 71 [] []) (.lst [.lst [], .tup []]), .mv 2] [])) [.ret (.cst (.bl false))] [], .set 2 (.lst [.lam 13 []]), .app (.var 2) (.lam 14 []), .app (.var 2) (.lam 15 []), .if_ (.not_ (.call 70 [.cst (.str [115, 104, 97, 112, 101]), .lst [.cst .non, .cst (.int 5), .cst (.str [97, 98]), .dnew false, .lst [.cst (.int 1)], .lst [.cst .non], .lst [.cst (.bl true), .cst (.int 0)], .lst [.lst [.cst (.bl true)]], .cst (.bl true)], .mv 2] [])) [.ret (.cst (.bl false))] [], .set 3 (.lst [.cst .non, .neg (.cst (.int 1)), .cst (.str [50]), .lst [], .cst (.bl true), .dnew false, .tup [.cst (.int 1)]]), .set 2 (.lst [.lam 16 []]), .app (.var 2) (.lam 17 []), .app (.var 2) (.lam 18 []), .if_ (.not_ (.call 70 [.cst (.str [115, 105, 122, 101]), .bin .add (.var 3) (.lst [.cst (.int 0)]), .mv 2] [])) [.ret (.cst (.bl false))] [], .set 2 (.lst [.lam 19 []]), .app (.var 2) (.lam 20 []), .if_ (.not_ (.call 70 [.cst (.str [115, 105, 122, 101]), .var 3, .mv 2] [])) [.ret (.cst (.bl false))] [], .set 4 (.mrk 0 (.call 69 [.mv 1, .cst (.int 3)] [])), .set 2 (.lst [.lam 21 [4]]), .app (.var 2) (.lam 22 [4]), .app (.var 2) (.lam 23 []), .if_ (.not_ (.call 70 [.cst (.str [109, 97, 110, 121]), .bin .add (.var 3) (.lst [.cst (.int 0)]), .mv 2] [])) [.ret (.cst (.bl false))] [], .if_ (.not_ (.call 70 [.cst (.str [101, 118, 101, 110]), .bin .add (.var 3) (.lst [.cst (.int 1), .cst (.int 3)]), .lst [.lam 24 []]] [])) [.ret (.cst (.bl false))] [], .if_ (.not_ (.call 70 [.cst (.str [105, 115, 95, 105, 110]), .lst [.cst .non, .cst (.int 0), .cst (.int 1), .cst (.str [84, 114, 117, 101]), .lst []], .lst [.lam 25 []]] [])) [.ret (.cst (.bl false))] [], .if_ (.not_ (.call 70 [.cst (.str [112, 105, 108, 101, 115]), .lst [.cst .non, .cst (.int 5), .cst (.str [48, 49]), .dnew false, .lst [.neg (.cst (.int 1))], .lst [.cst (.bl true)], .lst [.cst .non], .lst [.lst [.cst (.int 0)]]], .lst [.lam 26 []]] [])) [.ret (.cst (.bl false))] [], .set 3 (.lst [.cst (.int 5), .cst (.str [97, 98]), .dnew false, .lst [], .tup [.cst (.int 0), .cst .non], .tup [.cst (.bl true), .cst .non, .cst .non], .tup [.cst (.int 0), .cst .non, .cst .non, .cst .non], .tup [.cst (.int 1), .cst .non, .cst .non], .tup [.cst (.int 0), .tup [.cst (.int 0), .cst .non, .cst .non], .cst .non], .tup [.cst (.int 0), .cst (.int 5), .cst .non], .tup [.cst (.int 1), .tup [.cst (.int 0), .cst .non, .cst .non], .cst .non]]), .if_ (.not_ (.call 70 [.cst (.str [104, 101, 97, 112]), .var 3, .lst [.lam 27 []]] [])) [.ret (.cst (.bl false))] [], .set 2 (.lst [.lam 28 []]), .app (.var 2) (.lam 29 []), .app (.var 2) (.lam 30 []), .ret (.call 70 [.cst (.str [116, 114, 101, 101]), .bin .add (.slc (.var 3) none (some (.neg (.cst (.int 1))))) (.lst [.tup [.cst (.int 0), .tup [.cst (.int 1), .cst .non, .cst .non], .cst .non]]), .mv 2] [])], none⟩ -- law
def Pg : List DefR := [d0, d1, d2, d3, d4, d5, d6, d7, d8, d9, d10, d11, d12, d13, d14, d15, d16, d17, d18, d19, d20, d21, d22, d23, d24, d25, d26, d27, d28, d29, d30, d31, d32, d33, d34, d35, d36, d37, d38, d39, d40, d41, d42, d43, d44, d45, d46, d47, d48, d49, d50, d51, d52, d53, d54, d55, d56, d57, d58, d59, d60, d61, d62, d63, d64, d65, d66, d67, d68, d69, d70, d71, d72, d73]
def l0 : LamR := ⟨0, 2, 2, .callv (.var 0) [.var 1]⟩
def l1 : LamR := ⟨0, 2, 2, .callv (.var 0) [.var 1]⟩
def l2 : LamR := ⟨1, 0, 1, .call 17 [.var 0] []⟩
def l3 : LamR := ⟨1, 0, 1, .call 20 [.var 0] []⟩
def l4 : LamR := ⟨1, 0, 1, .call 22 [.var 0] []⟩
def l5 : LamR := ⟨1, 0, 1, .call 12 [.var 0] []⟩
def l6 : LamR := ⟨1, 0, 1, .call 29 [.var 0] []⟩
def l7 : LamR := ⟨1, 0, 1, .call 37 [.var 0] []⟩
def l8 : LamR := ⟨1, 0, 1, .call 10 [.var 0] []⟩
def l9 : LamR := ⟨1, 0, 1, .call 59 [.var 0, .cst .non] []⟩
def l10 : LamR := ⟨1, 0, 1, .call 62 [.cst .non, .var 0] [1, 0]⟩
def l11 : LamR := ⟨1, 0, 1, .call 44 [.var 0] []⟩
def l12 : LamR := ⟨1, 0, 1, .call 60 [.var 0] []⟩
def l13 : LamR := ⟨1, 0, 1, .call 46 [.var 0] []⟩
def l14 : LamR := ⟨1, 0, 1, .call 47 [.var 0] []⟩
def l15 : LamR := ⟨1, 0, 1, .call 48 [.var 0] []⟩
def l16 : LamR := ⟨1, 0, 1, .call 51 [.var 0] []⟩
def l17 : LamR := ⟨1, 0, 1, .call 52 [.var 0] []⟩
def l18 : LamR := ⟨1, 0, 1, .call 53 [.var 0] []⟩
def l19 : LamR := ⟨1, 0, 1, .call 39 [.var 0] []⟩
def l20 : LamR := ⟨1, 0, 1, .call 63 [.var 0, .cst .non] []⟩
def l21 : LamR := ⟨1, 1, 2, .call 59 [.var 1, .var 0] []⟩
def l22 : LamR := ⟨1, 1, 2, .call 62 [.var 1, .var 0] []⟩
def l23 : LamR := ⟨1, 0, 1, .call 63 [.cst (.int 3), .var 0] []⟩
def l24 : LamR := ⟨1, 0, 1, .call 8 [.var 0, .cst .non] []⟩
def l25 : LamR := ⟨1, 0, 1, .call 8 [.cst (.int 4), .var 0] []⟩
def l26 : LamR := ⟨1, 0, 1, .call 54 [.var 0] []⟩
def l27 : LamR := ⟨1, 0, 1, .call 16 [.var 0] []⟩
def l28 : LamR := ⟨1, 0, 1, .call 33 [.var 0] []⟩
def l29 : LamR := ⟨1, 0, 1, .call 34 [.var 0] []⟩
def l30 : LamR := ⟨1, 0, 1, .call 35 [.var 0] [0]⟩
def LL : List LamR := [l0, l1, l2, l3, l4, l5, l6, l7, l8, l9, l10, l11, l12, l13, l14, l15, l16, l17, l18, l19, l20, l21, l22, l23, l24, l25, l26, l27, l28, l29, l30]
def lawJ : Nat := 73
def LN0 : List (List Str) := [["ask", "odd"], ["ask", "odd"], ["odd"], ["odd"], ["odd"], ["odd"], ["odd"], ["odd"], ["odd"], ["odd"], ["odd"], ["odd"], ["odd"], ["odd"], ["odd"], ["odd"], ["odd"], ["odd"], ["odd"], ["odd"]]
def LN1 : List (List Str) := [["odd"], ["odd", "order"], ["odd", "order"], ["odd"], ["odd"], ["odd"], ["odd"], ["odd"], ["odd"], ["odd"], ["odd"]]
def LN : List (List Str) := LN0 ++ LN1
def D : Dat := ⟨dds, cls0, nms0, blt0, [⟨62, [1, 0], ["many", "order"]⟩, ⟨35, [0], ["tree"]⟩], Pg, LL, LN, kds0⟩
theorem chk : all2 D.chk1 D.defs D.Pg = true := by decide +kernel
theorem chkC : D.chkC = true := by decide +kernel
theorem pats (K : PySem.W.Frag) (c : He.SaysD D.fa D.fn K) : ∀ p ∈ D.pats, KwOk K ((D.G K).fd p.1) (D.T.ps.getD p.1 []) p.2.2 p.2.1 := by
  intro p hp
  simp only [D, List.mem_cons, List.not_mem_nil, or_false] at hp
  rcases hp with rfl | rfl
  · refine kw_at (j := 62) (d := dds.getD 62 ⟨"", "", top 0, [], false⟩) c rfl rfl fun kV doc pm an cdv ct ws h => ?_
    match ws, h with
    | [], h => exact absurd (show (0 : Nat) = 2 from h) (by decide)
    | [x0], h => exact absurd (show (1 : Nat) = 2 from h) (by decide)
    | x0 :: x1 :: rest, _ => rfl
  · refine kw_at (j := 35) (d := dds.getD 35 ⟨"", "", top 0, [], false⟩) c rfl rfl fun kV doc pm an cdv ct ws h => ?_
    match ws, h with
    | [], h => exact absurd (show (0 : Nat) = 1 from h) (by decide)
    | x0 :: rest, _ => rfl
abbrev V : Type := List Nat
def tok (v : V) : Nat → W
  | 3 => .lst (natsW v)
  | 67 => .tup (natsW v)
  | _ => .non
def orc (f : Nat) (os : List O) : Option O := match f, os with
  | 5, [.sh (.opq 3)] => some (.sh (.opq 67))
  | _, _ => none
def pl (f : Nat) : Bool := f == 69
abbrev cf (v : V) : CF := callO (tok v) orc pl 8 Pg LL 20
abbrev ce : List (Option Nat) := [none, none, none, none, some 0]
abbrev xB (v : V) : MS → SL → HH → Mini.R Fl := exB (callOB (tok v) orc pl 8 Pg LL 20) (evB (callOB (tok v) orc pl 8 Pg LL 20) ef).1 (evB (callOB (tok v) orc pl 8 Pg LL 20) ef).2 ce sf
def partA : List MS := (d73.body.drop 1).take 25
def rest : List MS := d73.body.drop 27
def Ack0 : List MS := ((partA).drop 0).take 10
theorem Ach0 (v : V) (a : O) (st ns : List W) : exL (xB v) Ack0 ([none, some (.sh (.hp 2)), none, none, none]) ([.cell none, .lst ns, .lst st]) = .ok .next ([none, some (.sh (.hp 2)), none, none, none]) ([.cell none, .lst ns, .lst st, .cell none]) := by kernel_rfl
def Ack1 : List MS := ((partA).drop 10).take 7
theorem Ach1 (v : V) (a : O) (st ns : List W) : exL (xB v) Ack1 ([none, some (.sh (.hp 2)), none, none, none]) ([.cell none, .lst ns, .lst st, .cell none]) = .ok .next ([none, some (.sh (.hp 2)), none, none, none]) ([.cell none, .lst ns, .lst st, .cell none, .cell none, .cell none]) := by kernel_rfl
def Ack2 : List MS := (partA).drop 17
theorem Ach2 (v : V) (a : O) (st ns : List W) : exL (xB v) Ack2 ([none, some (.sh (.hp 2)), none, none, none]) ([.cell none, .lst ns, .lst st, .cell none, .cell none, .cell none]) = .ok .next ([none, some (.sh (.hp 2)), none, some (.sh (.lst [.non, (.int (-1)), (.str [50]), (.lst []), (.bl true), (.dic false [] []), (.tup [(.int (1))])])), none]) ([.cell none, .lst ns, .lst st, .cell none, .cell none, .cell none, .cell none, .cell none]) := by kernel_rfl
theorem Aall (v : V) (a : O) (st ns : List W) : exL (exS (cf v) ce sf) (partA) ([none, some (.sh (.hp 2)), none, none, none]) ([.cell none, .lst ns, .lst st]) = .ok .next ([none, some (.sh (.hp 2)), none, some (.sh (.lst [.non, (.int (-1)), (.str [50]), (.lst []), (.bl true), (.dic false [] []), (.tup [(.int (1))])])), none]) ([.cell none, .lst ns, .lst st, .cell none, .cell none, .cell none, .cell none, .cell none]) := by
  have e : partA = Ack0 ++ (Ack1 ++ (Ack2)) := by kernel_rfl
  have hf : exS (cf v) ce sf = xB v := (fastS ce sf).symm
  have h0 : exL (xB v) (Ack0 ++ (Ack1 ++ (Ack2))) ([none, some (.sh (.hp 2)), none, none, none]) ([.cell none, .lst ns, .lst st]) = .ok .next ([none, some (.sh (.hp 2)), none, some (.sh (.lst [.non, (.int (-1)), (.str [50]), (.lst []), (.bl true), (.dic false [] []), (.tup [(.int (1))])])), none]) ([.cell none, .lst ns, .lst st, .cell none, .cell none, .cell none, .cell none, .cell none]) := (exL_app (Ach0 v a st ns)).trans ((exL_app (Ach1 v a st ns)).trans (Ach2 v a st ns))
  rw [hf, e]
  exact h0
def ck0 : List MS := ((rest).drop 0).take 4
theorem ch0 (v : V) (a : O) (st ns : List W) : exL (xB v) ck0 ([none, none, none, some (.sh (.lst [.non, (.int (-1)), (.str [50]), (.lst []), (.bl true), (.dic false [] []), (.tup [(.int (1))])])), some (.sh (.opq 3))]) ([.cell none, .lst ns, .lst st, .cell none, .cell none, .cell none, .cell none, .cell none]) = .ok .next ([none, none, none, some (.sh (.lst [.non, (.int (-1)), (.str [50]), (.lst []), (.bl true), (.dic false [] []), (.tup [(.int (1))])])), some (.sh (.opq 3))]) ([.cell none, .lst ns, .lst st, .cell none, .cell none, .cell none, .cell none, .cell none, .cell none]) := by kernel_rfl
def ck1 : List MS := ((rest).drop 4).take 5
theorem ch1 (v : V) (a : O) (st ns : List W) : exL (xB v) ck1 ([none, none, none, some (.sh (.lst [.non, (.int (-1)), (.str [50]), (.lst []), (.bl true), (.dic false [] []), (.tup [(.int (1))])])), some (.sh (.opq 3))]) ([.cell none, .lst ns, .lst st, .cell none, .cell none, .cell none, .cell none, .cell none, .cell none]) = .ok .next ([none, none, none, some (.sh (.lst [(.int (5)), (.str [97, 98]), (.dic false [] []), (.lst []), (.tup [(.int (0)), .non]), (.tup [(.bl true), .non, .non]), (.tup [(.int (0)), .non, .non, .non]), (.tup [(.int (1)), .non, .non]), (.tup [(.int (0)), (.tup [(.int (0)), .non, .non]), .non]), (.tup [(.int (0)), (.int (5)), .non]), (.tup [(.int (1)), (.tup [(.int (0)), .non, .non]), .non])])), some (.sh (.opq 3))]) ([.cell none, .lst ns, .lst st, .cell none, .cell none, .cell none, .cell none, .cell none, .cell none, .cell none, .cell none, .cell none, .cell none]) := by kernel_rfl
def ck2 : List MS := (rest).drop 9
theorem ch2 (v : V) (a : O) (st ns : List W) : isR (exL (xB v) ck2 ([none, none, none, some (.sh (.lst [(.int (5)), (.str [97, 98]), (.dic false [] []), (.lst []), (.tup [(.int (0)), .non]), (.tup [(.bl true), .non, .non]), (.tup [(.int (0)), .non, .non, .non]), (.tup [(.int (1)), .non, .non]), (.tup [(.int (0)), (.tup [(.int (0)), .non, .non]), .non]), (.tup [(.int (0)), (.int (5)), .non]), (.tup [(.int (1)), (.tup [(.int (0)), .non, .non]), .non])])), some (.sh (.opq 3))]) ([.cell none, .lst ns, .lst st, .cell none, .cell none, .cell none, .cell none, .cell none, .cell none, .cell none, .cell none, .cell none, .cell none])) = true := by kernel_rfl
theorem last (v : V) (a : O) (st ns : List W) : isR (exL (exS (cf v) ce sf) (rest) ([none, none, none, some (.sh (.lst [.non, (.int (-1)), (.str [50]), (.lst []), (.bl true), (.dic false [] []), (.tup [(.int (1))])])), some (.sh (.opq 3))]) ([.cell none, .lst ns, .lst st, .cell none, .cell none, .cell none, .cell none, .cell none])) = true := by
  have e : rest = ck0 ++ (ck1 ++ (ck2)) := by kernel_rfl
  have hf : exS (cf v) ce sf = xB v := (fastS ce sf).symm
  have h0 : exL (xB v) (ck0 ++ (ck1 ++ (ck2))) ([none, none, none, some (.sh (.lst [.non, (.int (-1)), (.str [50]), (.lst []), (.bl true), (.dic false [] []), (.tup [(.int (1))])])), some (.sh (.opq 3))]) ([.cell none, .lst ns, .lst st, .cell none, .cell none, .cell none, .cell none, .cell none]) = exL (xB v) ck2 ([none, none, none, some (.sh (.lst [(.int (5)), (.str [97, 98]), (.dic false [] []), (.lst []), (.tup [(.int (0)), .non]), (.tup [(.bl true), .non, .non]), (.tup [(.int (0)), .non, .non, .non]), (.tup [(.int (1)), .non, .non]), (.tup [(.int (0)), (.tup [(.int (0)), .non, .non]), .non]), (.tup [(.int (0)), (.int (5)), .non]), (.tup [(.int (1)), (.tup [(.int (0)), .non, .non]), .non])])), some (.sh (.opq 3))]) ([.cell none, .lst ns, .lst st, .cell none, .cell none, .cell none, .cell none, .cell none, .cell none, .cell none, .cell none, .cell none, .cell none]) := ((exL_app (ch0 v a st ns)).trans (exL_app (ch1 v a st ns)))
  rw [hf, e]
  exact (congrArg isR h0).trans (ch2 v a st ns)
theorem bodyE : d73.body = .set 1 (.call 64 [.mv 0] []) :: (partA ++ (.set 4 (.mrk 0 (.call 69 [.mv 1, .cst (.int 3)] [])) :: rest)) := by kernel_rfl
abbrev hb : HH := [.cell none, .lst [], .lst []]
abbrev hb2 : HH := [.cell none, .lst [], .lst [], .cell none, .cell none, .cell none, .cell none, .cell none]
theorem two2 : Two hb2 2 1 := ⟨by simp, by simp, by decide⟩
abbrev s0 (x : O) : SL := [some x, none, none, none, none]
abbrev sA : SL := [none, some (.sh (.hp 2)), none, some (.sh (.lst [.non, (.int (-1)), (.str [50]), (.lst []), (.bl true), (.dic false [] []), (.tup [(.int (1))])])), none]
abbrev sB : SL := [none, none, none, some (.sh (.lst [.non, (.int (-1)), (.str [50]), (.lst []), (.bl true), (.dic false [] []), (.tup [(.int (1))])])), some (.sh (.opq 3))]
theorem ords : Ords Pg 5 := ⟨⟨0, 3, 2, 1, rfl, rfl, rfl, rfl, rfl⟩⟩
theorem q0 (ns : List Int) : hq hb 2 1 ⟨ns, 0, 0, 17⟩ = [.cell none, .lst (intsW ns), .lst [.hp 1, .int 0, .int 0, .int 17]] := rfl
theorem q2 (q : Qs) : hq hb2 2 1 q = [.cell none, .lst (intsW q.ns), .lst [.hp 1, .int q.c, .int q.t, .int q.x], .cell none, .cell none, .cell none, .cell none, .cell none] := rfl
theorem row1 (v : V) (ns : List Int) : exS (cf v) ce sf (.set 1 (.call 64 [.mv 0] [])) (s0 (.sh (.ks (intsW ns)))) [.cell none] = .ok .next [none, some (.sh (.hp 2)), none, none, none] (hq hb 2 1 ⟨ns, 0, 0, 17⟩) := by
  have e : exS (cf v) ce sf (.set 1 (.call 64 [.mv 0] [])) (s0 (.sh (.ks (intsW ns)))) [.cell none] = .ok .next [none, some (.sh (.hp 2)), none, none, none] [.cell none, .lst (O.toWs ((intsW ns).map .sh)), .lst [.hp 1, .int 0, .int 0, .int 17]] := by kernel_rfl
  rw [toWs_map] at e
  exact e
theorem partA_ok (v : V) (ns : List Int) : exL (exS (cf v) ce sf) partA [none, some (.sh (.hp 2)), none, none, none] (hq hb 2 1 ⟨ns, 0, 0, 17⟩) = .ok .next sA (hq hb2 2 1 ⟨ns, 0, 0, 17⟩) := by
  rw [q0, q2]
  exact Aall v (.sh .non) _ _
theorem row2 {v : List Nat} (hn : v.length = 3) (q q1 : Qs) (e1 : ∀ n, callD Pg LL (n + 3) (.fn 69) [.sh (.hp 2), .sh (.int 3)] (hq hb2 2 1 q) = .ok (.lst ((natsW v).map .sh)) [] (hq hb2 2 1 q1)) :
    exS (cf v) ce sf (.set 4 (.mrk 0 (.call 69 [.mv 1, .cst (.int 3)] []))) sA (hq hb2 2 1 q) = .ok .next sB (hq hb2 2 1 q1) := by
  have c1 := e_callP (cf := cf v) (ce := ce) (n := 58) (j := 69) (es := [.mv 1, .cst (.int 3)]) (s := sA) (h := hq hb2 2 1 q) (l_cons (e_mv (n := 57) rfl) (l_cons (e_cst (n := 57)) l_nil)) rfl ((call_pl (n := 19) rfl rfl).trans (e1 25)) rfl
  have sl := seal_ord (tok := tok v) (orc := orc) (pl := pl) (n0 := 8) (n := 19) (Pg := Pg) (LL := LL) (t := 0) (v := v) (h := hq hb2 2 1 q1) (by omega) (by rw [hn]; rfl)
  rw [hn] at sl
  exact s_set (n := 39) (i := 4) (e_mrk (m := 59) c1 sl)
theorem orc_ok {v : List Nat} (hv : IsOrd v) (hn : v.length = 3) : OrcOk (tok v) orc 8 Pg LL := by
  intro n f os o e
  unfold orc at e
  split at e
  · cases e
    exact okKept ords hv (by omega) rfl rfl (by rw [hn]) (by omega)
  · cases e
theorem tells (ns : List Int) (hl : ns.length ≤ 63) : TellsO Pg LL 8 21 lawJ ns := by
  have ok : (⟨ns, 0, 0, 17⟩ : Qs).ok (0 + 3) := ⟨by show (0 : Int) ≤ 0; omega, ⟨by show (0 : Int) ≤ 0; omega, by show (0 : Int) + ((0 + 3 : Nat) : Int) ≤ 1000000000; omega⟩, ⟨by show (0 : Int) ≤ 17; omega, by show (17 : Int) < 2147483647; omega⟩, hl⟩
  obtain ⟨v, q1, e1, hv, hn, _⟩ := order_q (Pg := Pg) (LL := LL) (jd := 65) (jm := 66) (jo := 69) rfl rfl rfl two2 (k := 3) ok (by omega)
  have b : exL (exS (cf v) ce sf) d73.body (s0 (.sh (.ks (intsW ns)))) [.cell none] = exL (exS (cf v) ce sf) rest sB (hq hb2 2 1 q1) := by
    rw [bodyE]
    exact (exL_next (row1 v ns)).trans ((exL_app (partA_ok v ns)).trans (exL_next (row2 hn _ q1 e1)))
  have z : isR (exL (exS (cf v) ce sf) d73.body (s0 (.sh (.ks (intsW ns)))) [.cell none]) = true := by
    rw [b, q2]
    exact last v (.sh .non) _ _
  have y : TellsC (callO (tok v) orc pl 8 Pg LL 21) lawJ ns := tellsC_ok (n := 20) (d := d73) rfl rfl rfl rfl rfl rfl rfl rfl rfl z
  exact ⟨tok v, orc, pl, orc_ok hv hn, y⟩
end Lk76
end Mini
open PySem PySem.W PySem.Calls PyProof.Rows
theorem PySem.Challenge.cw_orderswithin_k76_shapes_trees_and_shuffl_holds : PySem.Challenge.rw_orderswithin_k76_shapes_trees_and_shuffl.Holds := by
  w_on; o_law
  refine HandSHeadRun.head_any (r := OpenLaw.row PySem.Challenge.rw_orderswithin_k76_shapes_trees_and_shuffl) (q := view (OpenLaw.row PySem.Challenge.rw_orderswithin_k76_shapes_trees_and_shuffl).prog [96]) (H := Mini.Lk76.hk) (ob := Mini.Lk76.ob) (M := 9000) (loose := Mini.Lk76.loose) (d := HandSHeadRun.topDef (OpenLaw.row PySem.Challenge.rw_orderswithin_k76_shapes_trees_and_shuffl).prog 96) (kwd := []) Mini.Lk76.ob_eq
    (by kernel_rfl) (fun s => by kernel_rfl) Mini.Lk76.run (by kernel_rfl) (by kernel_rfl) (by kernel_rfl) (by rfl) (by first | assumption | decide +kernel) (by decide +kernel) ⟨rfl, rfl, rfl, rfl, rfl, by decide +kernel⟩ ?hw ?hc
  case hw => w_witness2
  case hc =>
    refine LamX.walk_ofTsE (l := PySem.Challenge.rw_orderswithin_k76_shapes_trees_and_shuffl) (n := 63) (k := 31) (x := "script") (CX := fun w => L2.CX (PySem.Challenge.rw_orderswithin_k76_shapes_trees_and_shuffl).prog w) rfl (by decide) (by kernel_rfl) ⟨rfl, by decide, by decide⟩ ?F ?C
    case F =>
      intro w mg fa h Y G hmg0
      obtain ⟨K, KX, c⟩ := Y
      have hmg : mg ("law" : PySem.Str) = some (.ref fa) := by
        have e : (HandSHeadRun.topDef (OpenLaw.row PySem.Challenge.rw_orderswithin_k76_shapes_trees_and_shuffl).prog 96).name = ("law" : PySem.Str) := by kernel_rfl
        rw [← e]
        exact hmg0
      exact ⟨K, KX, Mini.law_atO (n0 := 8) (n := 21) (D := Mini.Lk76.D) KX G c Mini.Lk76.chk Mini.Lk76.chkC Mini.Lk76.pats (lj := Mini.Lk76.lawJ) rfl rfl (by decide +kernel) hmg fun ns hl _ => Mini.Lk76.tells ns hl⟩
    case C => exact fun w H s e s' z => Mini.cx_no z
