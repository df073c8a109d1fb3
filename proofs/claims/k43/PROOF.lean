import PyProof.Rows.All
import Wide.All
import OpenK.AllK
import Wide.FinOn
import KE.KStateDown
import Lean
import HandS.Base
import HandS.Call
import HandS.List
import HandS.Comp
import HandS.Dict
import HandS.Exc
import HandS.ExcOwn
import HandS.Words
import HandS.Defaults
import HandS.Evl
import HandS.HeadHook1
import HandS.Lambda
import HandS.TupAny
import HandS.Wide
import HandS.TupLe
import HandS.TupMul
import KE.DataEq
import HandS.CallSlots
import HandS.TryMany
import HandS.Iter
import HandS.Zip
import KE.GoesEnum
import KE.GoesZip
import KE.GoesMore
import HandS.More
import HandS.Codes
import HandS.Small
import HandS.Deep
import HandS.SetFor
import HandS.SortInts
import HandS.Remove
import KE.KIndexOf
import HandS.IsInst
import HandS.Conv
import HandS.Steps
import KE.DataMinMax
import PyProof.Rows.SortShellAny
import KE.SortData
import HandS.Ends
import HandS.WordsExc
import HandS.Head0
import HandS.Head1
import HandS.Head2
import HandS.HeadEnd
import HandS.HeadHook2
import KE.KRevSl
import HandS.Style
import HandS.RaiseMore
import HandS.ExcInit
import KE.KExcInit
import KE.KTryMore
import HandS.ExcIs
import KE.KExcIs
import HandS.ExcField
import HandS.Finally
import OpenK.KOps
import HandS.FStr
import HandS.TryOnly
import HandS.Strs
import HandS.TupSets
import HandS.SetBool
import PyProof.Rows.IntBool
import HandS.SortKw
import KE.KDictPairs
import HandS.OwnEq
import HandS.Text
import HandS.StrMore
import KE.KUnpackStar
import HandS.EndTab
import HandS.HeadWalk
import PySem.Challenge.RW_afterlist_k43_names_and_errors
set_option Elab.async false
set_option linter.all false
set_option maxRecDepth 100000
set_option maxHeartbeats 4000000
namespace Vz
open PySem PySem.Spec PyProof.Rows L2
def clsBody : Stmt → List Stmt
 | .ClassDef _ _ _ b _ _ _ _ _ _ _ => b
 | _ => []
abbrev bmV : List Value:=[.type "ValueError", .type "Exception", .type "BaseException", .type "object"]
abbrev bmL : List Value:=[.type "LookupError", .type "Exception", .type "BaseException", .type "object"]
abbrev bmR : List Value:=[.type "RuntimeError", .type "Exception", .type "BaseException", .type "object"]
abbrev bmO : List Value:=[.type "OverflowError", .type "ArithmeticError", .type "Exception", .type "BaseException", .type "object"]
structure XcD where
 c : Str
 newId : String
 bm : List Value
 fs : List Str
def XcD.at_ (K : PySem.W.Frag) (x : XcD) : Addr:=He.ga K x.c
def clsOk (C : Addr) (newId : String) (bm : List Value) : Option Obj → Bool
 | some ⟨.type "type", _, .cls cd, sl⟩ => (match sl.toList with
  | [_, _, _, _, some (.builtin n), _] => cd.mro == .ref C :: bm && (cd.hasDict && (!cd.hasDel && n == newId))
  | _ => false)
 | _ => false
def XcD.ok (K : PySem.W.Frag) (x : XcD) : Bool :=
 clsOk (x.at_ K) x.newId x.bm (K.lookup (x.at_ K)) && (He.eqO (PySem.W.findIn K (.ref (x.at_ K)) "__setattr__") (some (some (.builtin "object.__setattr__"))) && (decide (PySem.W.subIn K (.ref (x.at_ K)) (.type "BaseException") = some true) &&
  (decide (PySem.W.typeIn K (.ref (x.at_ K)) = some (.type "type")) && (PySem.W.keepIn K (.ref (x.at_ K)) && (He.eqO (PySem.W.findIn K (.ref (x.at_ K)) "__init__") (some (some (.ref (He.ma K (x.at_ K) "__init__")))) &&
   (decide (PySem.W.typeIn K (.ref (He.ma K (x.at_ K) "__init__")) = some (.type "function")) && x.fs.all fun f => He.eqO (PySem.W.findIn K (.ref (x.at_ K)) f) (some none)))))))
abbrev AlX : Type:=Bool × He.AlD
def obsX (xs : List XcD) (ck : PySem.W.Frag → Bool) (fa : List He.Fa) (fn : List He.DefD) (K : PySem.W.Frag) : AlX:=((xs.all fun x => x.ok K) && ck K, He.obsD fa fn K)
def obsXG (n : Nat) (xs : List XcD) (ck : PySem.W.Frag → Bool) (fa : List He.Fa) (fn : List He.DefD) (g : Addr → Option Obj) : AlX:=obsX xs ck fa fn (He.frG g (He.asD g n))
def SaysX (xs : List XcD) (ck : PySem.W.Frag → Bool) (fa : List He.Fa) (fn : List He.DefD) (K : PySem.W.Frag) : Prop:=obsX xs ck fa fn K = (true, He.valD fn)
def hookX (n : Nat) (xs : List XcD) (ck : PySem.W.Frag → Bool) (fa : List He.Fa) (fn : List He.DefD) : PySem.W.Hook where
 α:=AlX
 obs:=fun s => obsXG n xs ck fa fn s.heap.get?
 val:=fun _ => (true, He.valD fn)
 says:=fun _ h => ∃ K : PySem.W.Frag, K.In h ∧ SaysX xs ck fa fn K
 of:=fun _ _ e => ⟨_, He.frG_in, e⟩
 keeps:=fun _ _ _ ⟨K, hK, c⟩ k => ⟨K, PySem.W.Frag.In.keeps hK k, c⟩
theorem obsXG_eq {n : Nat} {xs : List XcD} {ck : PySem.W.Frag → Bool} {fa : List He.Fa} {fn : List He.DefD} {g : Addr → Option Obj} {s : Shared} (h : ∀ a, g a = s.heap.get? a) : obsXG n xs ck fa fn g = (hookX n xs ck fa fn).obs s:=by
 obtain rfl : g = s.heap.get?:=funext h
 rfl
def excB (K : PySem.W.Frag) (C : Addr) : Bool :=
 He.eqO (PySem.W.findIn K (.ref C) "__getattribute__") (some (some (.builtin "BaseException.__getattribute__"))) && (He.eqO (PySem.W.findIn K (.ref C) "__getattr__") (some none) && (decide (PySem.W.subIn K (.ref C) (.type "BaseException") = some true) &&
  (PySem.W.hasDictIn K C && (He.eqO (PySem.W.findIn K (.ref C) "__class__") (some (some (.builtin "object.__class__"))) && (He.eqO (PySem.W.specialIn K (.builtin "object.__class__") "__get__") (some (some (.builtin "getset_descriptor.__get__"))) &&
   (decide (PySem.W.takesIn K (.builtin "object.__class__") = some true) && decide (PySem.W.mroIn K C (.type "object") = some true)))))))
def rowB (K : PySem.W.Frag) (L : List Str) (B : List String) (tb : Str → String → Bool) (fl : List Str) (x : Str) : Bool :=
 excB K (He.ga K x) && ((fl.all fun f => He.eqO (PySem.W.findIn K (.ref (He.ga K x)) f) (some none)) && ((L.all fun y => decide (PySem.W.exmOne K (.ref (He.ga K x)) (.ref (He.ga K y)) = some (x == y))) &&
  ((L.all fun y => decide (PySem.W.kitOne K (.ref (He.ga K x)) (.ref (He.ga K y)) = some (x == y))) && (B.all fun b => decide (PySem.W.kitOne K (.ref (He.ga K x)) (.type b) = some (tb x b))))))
def extB (L : List Str) (B : List String) (tb : Str → String → Bool) (fl : List Str) (K : PySem.W.Frag) : Bool:=L.all fun x => rowB K L B tb fl x
def tbP (x : Str) (b : String) : Bool:=match b with
 | "ValueError" => (["Duplicate", "Misfit", "Impossible", "NotLast", "BadText", "BadLine"] : List Str).contains x
 | "LookupError" => (["Missing", "NoItem", "NoOrder", "NoState"] : List Str).contains x
 | "RuntimeError" => (["NoWay"] : List Str).contains x
 | "OverflowError" => (["TooMany", "Full"] : List Str).contains x
 | "ArithmeticError" => (["TooMany", "Full"] : List Str).contains x
 | "Exception" => true
 | _ => false
def insB (c : Str) (K : PySem.W.Frag) : Bool :=
 He.eqO (PySem.W.findIn K (.ref (He.ga K c)) "__class__") (some (some (.builtin "object.__class__"))) && (He.eqO (PySem.W.specialIn K (.builtin "object.__class__") "__get__") (some (some (.builtin "getset_descriptor.__get__"))) &&
   (decide (PySem.W.takesIn K (.builtin "object.__class__") = some true) && (decide (PySem.W.mroIn K (He.ga K c) (.type "object") = some true) && decide (PySem.W.kitOne K (.ref (He.ga K c)) (.ref (He.ga K c)) = some true))))
def ckIns (c : Str) (f : PySem.W.Frag → Bool) (K : PySem.W.Frag) : Bool:=f K && insB c K
theorem run_and {α β γ : Type} {e : Option α} {f : α → β} {g : α → γ} {b : β} {c : γ} (h1 : e.map f = some b) (h2 : e.map g = some c) : e.map (fun s => (f s, g s)) = some (b, c):=by
 cases e with
 | none => cases h1
 | some s =>
  have h1 : some (f s) = some b:=h1
  have h2 : some (g s) = some c:=h2
  injection h1 with h1
  injection h2 with h2
  show some (f s, g s) = some (b, c)
  rw [h1, h2]
theorem obs_and {σ : Type} {n : Nat} {xs : List XcD} {ck : PySem.W.Frag → Bool} {fa fb : List He.Fa} {A B : List He.DefD} {e : Option σ} {g : σ → Addr → Option Obj} (h1 : e.map (fun s => obsXG n xs ck fa A (g s)) = some (true, He.valD A)) (h2 : e.map (fun s => obsXG n [] (fun _ => true) fb B (g s)) = some (true, He.valD B)) : e.map (fun s => obsXG n xs ck (fa ++ fb) (A ++ B) (g s)) = some (true, He.valD (A ++ B)):=by
 cases e with
 | none => cases h1
 | some s =>
  have h1 : some (obsXG n xs ck fa A (g s)) = some (true, He.valD A):=h1
  have h2 : some (obsXG n [] (fun _ => true) fb B (g s)) = some (true, He.valD B):=h2
  injection h1 with h1
  injection h2 with h2
  show some (obsXG n xs ck (fa ++ fb) (A ++ B) (g s)) = _
  congr 1
  unfold obsXG obsX He.obsD He.valD at h1 h2 ⊢
  generalize He.frG (g s) (He.asD (g s) n) = K at h1 h2 ⊢
  injection h1 with a1 a2
  injection a2 with a2 a3
  injection h2 with b1 b2
  injection b2 with b2 b3
  obtain ⟨a4, a5⟩:=Bool.and_eq_true_iff.mp a2
  obtain ⟨b4, b5⟩:=Bool.and_eq_true_iff.mp b2
  rw [a1, List.all_append, List.all_append, a4, b4, a5, b5, List.map_append, a3, b3, List.map_append]
  rfl
end Vz
namespace K43
open PySem PySem.Spec PyProof.Rows L2 Vz
def top (i : Nat) : Stmt:=PySem.Challenge.pw_afterlist_k43_names_and_errors.main.body.getD i (.Pass ⟨0, 0, 0, 0⟩)
def LX : List Str:=["Duplicate", "Misfit", "Impossible", "NotLast", "BadText", "BadLine", "Missing", "NoItem", "NoOrder", "NoState", "NoWay", "TooMany", "Full"]
def BX : List String:=["LookupError", "OverflowError", "RuntimeError", "ValueError", "IndexError", "KeyError", "NotImplementedError", "ZeroDivisionError"]
def flX : List Str:=["anchor", "entry", "item", "line", "many", "number", "place"]
abbrev s_Editor___init__ : Stmt:=(clsBody (top 45)).getD 0 (.Pass ⟨0, 0, 0, 0⟩)
abbrev s_Duplicate : Stmt:=(clsBody (top 2)).getD 0 (.Pass ⟨0, 0, 0, 0⟩)
abbrev s_Misfit : Stmt:=(clsBody (top 3)).getD 0 (.Pass ⟨0, 0, 0, 0⟩)
abbrev s_Impossible : Stmt:=(clsBody (top 4)).getD 0 (.Pass ⟨0, 0, 0, 0⟩)
abbrev s_NotLast : Stmt:=(clsBody (top 5)).getD 0 (.Pass ⟨0, 0, 0, 0⟩)
abbrev s_BadText : Stmt:=(clsBody (top 6)).getD 0 (.Pass ⟨0, 0, 0, 0⟩)
abbrev s_BadLine : Stmt:=(clsBody (top 7)).getD 0 (.Pass ⟨0, 0, 0, 0⟩)
abbrev s_Missing : Stmt:=(clsBody (top 8)).getD 0 (.Pass ⟨0, 0, 0, 0⟩)
abbrev s_NoItem : Stmt:=(clsBody (top 9)).getD 0 (.Pass ⟨0, 0, 0, 0⟩)
abbrev s_NoOrder : Stmt:=(clsBody (top 10)).getD 0 (.Pass ⟨0, 0, 0, 0⟩)
abbrev s_NoState : Stmt:=(clsBody (top 11)).getD 0 (.Pass ⟨0, 0, 0, 0⟩)
abbrev s_NoWay : Stmt:=(clsBody (top 12)).getD 0 (.Pass ⟨0, 0, 0, 0⟩)
abbrev s_TooMany : Stmt:=(clsBody (top 13)).getD 0 (.Pass ⟨0, 0, 0, 0⟩)
abbrev s_Full : Stmt:=(clsBody (top 14)).getD 0 (.Pass ⟨0, 0, 0, 0⟩)
abbrev s_marks_of : Stmt:=top 23
abbrev s_nearest : Stmt:=top 29
abbrev s_fits : Stmt:=top 30
abbrev s_present_after : Stmt:=top 38
abbrev s_gaps_of : Stmt:=top 26
abbrev s_choose : Stmt:=top 22
abbrev s_mixings : Stmt:=top 27
abbrev s_count_rest : Stmt:=top 28
abbrev s_can_begin : Stmt:=top 24
abbrev s_gap_table : Stmt:=top 25
abbrev s_count_after : Stmt:=top 39
abbrev s_put : Stmt:=top 18
abbrev s_grown : Stmt:=top 46
abbrev s_Editor_insert_one : Stmt:=(clsBody (top 45)).getD 11 (.Pass ⟨0, 0, 0, 0⟩)
abbrev s_Editor_insert_all : Stmt:=(clsBody (top 45)).getD 12 (.Pass ⟨0, 0, 0, 0⟩)
abbrev s_with_anchor : Stmt:=top 34
abbrev s_count_orders : Stmt:=top 37
abbrev s_Editor_listed : Stmt:=(clsBody (top 45)).getD 4 (.Pass ⟨0, 0, 0, 0⟩)
abbrev s_Editor_anchors : Stmt:=(clsBody (top 45)).getD 5 (.Pass ⟨0, 0, 0, 0⟩)
abbrev s_Editor_count : Stmt:=(clsBody (top 45)).getD 7 (.Pass ⟨0, 0, 0, 0⟩)
abbrev s_Editor_order : Stmt:=(clsBody (top 45)).getD 6 (.Pass ⟨0, 0, 0, 0⟩)
abbrev s_Editor_forget : Stmt:=(clsBody (top 45)).getD 13 (.Pass ⟨0, 0, 0, 0⟩)
abbrev s_next_places : Stmt:=top 31
abbrev s_sorted_next : Stmt:=top 36
abbrev s_next_items : Stmt:=top 40
abbrev s_anchors_of : Stmt:=top 19
abbrev s_steps_of : Stmt:=top 20
abbrev s_is_integer : Stmt:=top 17
abbrev s_is_order : Stmt:=top 51
abbrev s_shows_order : Stmt:=top 52
abbrev s_is_wrong : Stmt:=top 49
abbrev s_shows_wrong : Stmt:=top 53
abbrev s_do_cross : Stmt:=top 50
abbrev s_shows_crossing : Stmt:=top 54
abbrev s__law_equal : Stmt:=top 58
abbrev s_Editor___eq__ : Stmt:=(clsBody (top 45)).getD 1 (.Pass ⟨0, 0, 0, 0⟩)
abbrev s__law_classes : Stmt:=top 59
abbrev s__law_base : Stmt:=top 60
abbrev s__law_errors_right : Stmt:=top 61
abbrev s_Editor_operations : Stmt:=(clsBody (top 45)).getD 9 (.Pass ⟨0, 0, 0, 0⟩)
abbrev s_Editor_as_of : Stmt:=(clsBody (top 45)).getD 15 (.Pass ⟨0, 0, 0, 0⟩)
abbrev s__law_draw : Stmt:=top 57
abbrev s__law_holds : Stmt:=top 62
abbrev s__law_source : Stmt:=top 56
abbrev s_law : Stmt:=top 63
def d_marks_of : He.DefD:=⟨("marks_of", none), "marks_of", "marks_of", defArgs s_marks_of, defBody s_marks_of, defScope s_marks_of, [], []⟩
def d_nearest : He.DefD:=⟨("nearest", none), "nearest", "nearest", defArgs s_nearest, defBody s_nearest, defScope s_nearest, [], []⟩
def d_fits : He.DefD:=⟨("fits", none), "fits", "fits", defArgs s_fits, defBody s_fits, defScope s_fits, [], []⟩
def d_present_after : He.DefD:=⟨("present_after", none), "present_after", "present_after", defArgs s_present_after, defBody s_present_after, defScope s_present_after, [], []⟩
def d_gaps_of : He.DefD:=⟨("gaps_of", none), "gaps_of", "gaps_of", defArgs s_gaps_of, defBody s_gaps_of, defScope s_gaps_of, [], []⟩
def d_choose : He.DefD:=⟨("choose", none), "choose", "choose", defArgs s_choose, defBody s_choose, defScope s_choose, [], []⟩
def d_mixings : He.DefD:=⟨("mixings", none), "mixings", "mixings", defArgs s_mixings, defBody s_mixings, defScope s_mixings, [], []⟩
def d_count_rest : He.DefD:=⟨("count_rest", none), "count_rest", "count_rest", defArgs s_count_rest, defBody s_count_rest, defScope s_count_rest, [], []⟩
def d_can_begin : He.DefD:=⟨("can_begin", none), "can_begin", "can_begin", defArgs s_can_begin, defBody s_can_begin, defScope s_can_begin, [], []⟩
def d_gap_table : He.DefD:=⟨("gap_table", none), "gap_table", "gap_table", defArgs s_gap_table, defBody s_gap_table, defScope s_gap_table, [], []⟩
def d_count_after : He.DefD:=⟨("count_after", none), "count_after", "count_after", defArgs s_count_after, defBody s_count_after, defScope s_count_after, [], []⟩
def d_put : He.DefD:=⟨("put", none), "put", "put", defArgs s_put, defBody s_put, defScope s_put, [], []⟩
def d_grown : He.DefD:=⟨("grown", none), "grown", "grown", defArgs s_grown, defBody s_grown, defScope s_grown, [], []⟩
def d_with_anchor : He.DefD:=⟨("with_anchor", none), "with_anchor", "with_anchor", defArgs s_with_anchor, defBody s_with_anchor, defScope s_with_anchor, [], []⟩
def d_count_orders : He.DefD:=⟨("count_orders", none), "count_orders", "count_orders", defArgs s_count_orders, defBody s_count_orders, defScope s_count_orders, [], []⟩
def d_next_places : He.DefD:=⟨("next_places", none), "next_places", "next_places", defArgs s_next_places, defBody s_next_places, defScope s_next_places, [], []⟩
def d_sorted_next : He.DefD:=⟨("sorted_next", none), "sorted_next", "sorted_next", defArgs s_sorted_next, defBody s_sorted_next, defScope s_sorted_next, [], []⟩
def d_next_items : He.DefD:=⟨("next_items", none), "next_items", "next_items", defArgs s_next_items, defBody s_next_items, defScope s_next_items, [], []⟩
def d_anchors_of : He.DefD:=⟨("anchors_of", none), "anchors_of", "anchors_of", defArgs s_anchors_of, defBody s_anchors_of, defScope s_anchors_of, [], []⟩
def d_steps_of : He.DefD:=⟨("steps_of", none), "steps_of", "steps_of", defArgs s_steps_of, defBody s_steps_of, defScope s_steps_of, [], []⟩
def d_is_integer : He.DefD:=⟨("is_integer", none), "is_integer", "is_integer", defArgs s_is_integer, defBody s_is_integer, defScope s_is_integer, [], []⟩
def d_is_order : He.DefD:=⟨("is_order", none), "is_order", "is_order", defArgs s_is_order, defBody s_is_order, defScope s_is_order, [], []⟩
def d_shows_order : He.DefD:=⟨("shows_order", none), "shows_order", "shows_order", defArgs s_shows_order, defBody s_shows_order, defScope s_shows_order, [], []⟩
def d_is_wrong : He.DefD:=⟨("is_wrong", none), "is_wrong", "is_wrong", defArgs s_is_wrong, defBody s_is_wrong, defScope s_is_wrong, [], []⟩
def d_shows_wrong : He.DefD:=⟨("shows_wrong", none), "shows_wrong", "shows_wrong", defArgs s_shows_wrong, defBody s_shows_wrong, defScope s_shows_wrong, [], []⟩
def d_do_cross : He.DefD:=⟨("do_cross", none), "do_cross", "do_cross", defArgs s_do_cross, defBody s_do_cross, defScope s_do_cross, [], []⟩
def d_shows_crossing : He.DefD:=⟨("shows_crossing", none), "shows_crossing", "shows_crossing", defArgs s_shows_crossing, defBody s_shows_crossing, defScope s_shows_crossing, [], []⟩
def d__law_equal : He.DefD:=⟨("_law_equal", none), "_law_equal", "_law_equal", defArgs s__law_equal, defBody s__law_equal, defScope s__law_equal, [], []⟩
def d__law_classes : He.DefD:=⟨("_law_classes", none), "_law_classes", "_law_classes", defArgs s__law_classes, defBody s__law_classes, defScope s__law_classes, [], []⟩
def d__law_base : He.DefD:=⟨("_law_base", none), "_law_base", "_law_base", defArgs s__law_base, defBody s__law_base, defScope s__law_base, [], []⟩
def d__law_errors_right : He.DefD:=⟨("_law_errors_right", none), "_law_errors_right", "_law_errors_right", defArgs s__law_errors_right, defBody s__law_errors_right, defScope s__law_errors_right, [], []⟩
def d__law_draw : He.DefD:=⟨("_law_draw", none), "_law_draw", "_law_draw", defArgs s__law_draw, defBody s__law_draw, defScope s__law_draw, [], []⟩
def d__law_holds : He.DefD:=⟨("_law_holds", none), "_law_holds", "_law_holds", defArgs s__law_holds, defBody s__law_holds, defScope s__law_holds, [], []⟩
def d__law_source : He.DefD:=⟨("_law_source", none), "_law_source", "_law_source", defArgs s__law_source, defBody s__law_source, defScope s__law_source, [], []⟩
def d_law : He.DefD:=⟨("law", none), "law", "law", defArgs s_law, defBody s_law, defScope s_law, [], []⟩
def d_Editor_insert_one : He.DefD:=⟨("Editor", some "insert_one"), "insert_one", "Editor.insert_one", defArgs s_Editor_insert_one, defBody s_Editor_insert_one, defScope s_Editor_insert_one, [.non], []⟩
def d_Editor_insert_all : He.DefD:=⟨("Editor", some "insert_all"), "insert_all", "Editor.insert_all", defArgs s_Editor_insert_all, defBody s_Editor_insert_all, defScope s_Editor_insert_all, [], []⟩
def d_Editor_listed : He.DefD:=⟨("Editor", some "listed"), "listed", "Editor.listed", defArgs s_Editor_listed, defBody s_Editor_listed, defScope s_Editor_listed, [], []⟩
def d_Editor_anchors : He.DefD:=⟨("Editor", some "anchors"), "anchors", "Editor.anchors", defArgs s_Editor_anchors, defBody s_Editor_anchors, defScope s_Editor_anchors, [], []⟩
def d_Editor_count : He.DefD:=⟨("Editor", some "count"), "count", "Editor.count", defArgs s_Editor_count, defBody s_Editor_count, defScope s_Editor_count, [], []⟩
def d_Editor_order : He.DefD:=⟨("Editor", some "order"), "order", "Editor.order", defArgs s_Editor_order, defBody s_Editor_order, defScope s_Editor_order, [], []⟩
def d_Editor_forget : He.DefD:=⟨("Editor", some "forget"), "forget", "Editor.forget", defArgs s_Editor_forget, defBody s_Editor_forget, defScope s_Editor_forget, [], []⟩
def d_Editor___eq__ : He.DefD:=⟨("Editor", some "__eq__"), "__eq__", "Editor.__eq__", defArgs s_Editor___eq__, defBody s_Editor___eq__, defScope s_Editor___eq__, [], []⟩
def d_Editor_operations : He.DefD:=⟨("Editor", some "operations"), "operations", "Editor.operations", defArgs s_Editor_operations, defBody s_Editor_operations, defScope s_Editor_operations, [], []⟩
def d_Editor_as_of : He.DefD:=⟨("Editor", some "as_of"), "as_of", "Editor.as_of", defArgs s_Editor_as_of, defBody s_Editor_as_of, defScope s_Editor_as_of, [], []⟩
def d_Editor___init__ : He.DefD:=⟨("Editor", some "__init__"), "__init__", "Editor.__init__", defArgs s_Editor___init__, defBody s_Editor___init__, defScope s_Editor___init__, [], []⟩
def d_Duplicate : He.DefD:=⟨("Duplicate", some "__init__"), "__init__", "Duplicate.__init__", defArgs s_Duplicate, defBody s_Duplicate, defScope s_Duplicate, [], []⟩
def d_Misfit : He.DefD:=⟨("Misfit", some "__init__"), "__init__", "Misfit.__init__", defArgs s_Misfit, defBody s_Misfit, defScope s_Misfit, [], []⟩
def d_Impossible : He.DefD:=⟨("Impossible", some "__init__"), "__init__", "Impossible.__init__", defArgs s_Impossible, defBody s_Impossible, defScope s_Impossible, [], []⟩
def d_NotLast : He.DefD:=⟨("NotLast", some "__init__"), "__init__", "NotLast.__init__", defArgs s_NotLast, defBody s_NotLast, defScope s_NotLast, [], []⟩
def d_BadText : He.DefD:=⟨("BadText", some "__init__"), "__init__", "BadText.__init__", defArgs s_BadText, defBody s_BadText, defScope s_BadText, [], []⟩
def d_BadLine : He.DefD:=⟨("BadLine", some "__init__"), "__init__", "BadLine.__init__", defArgs s_BadLine, defBody s_BadLine, defScope s_BadLine, [], []⟩
def d_Missing : He.DefD:=⟨("Missing", some "__init__"), "__init__", "Missing.__init__", defArgs s_Missing, defBody s_Missing, defScope s_Missing, [], []⟩
def d_NoItem : He.DefD:=⟨("NoItem", some "__init__"), "__init__", "NoItem.__init__", defArgs s_NoItem, defBody s_NoItem, defScope s_NoItem, [], []⟩
def d_NoOrder : He.DefD:=⟨("NoOrder", some "__init__"), "__init__", "NoOrder.__init__", defArgs s_NoOrder, defBody s_NoOrder, defScope s_NoOrder, [], []⟩
def d_NoState : He.DefD:=⟨("NoState", some "__init__"), "__init__", "NoState.__init__", defArgs s_NoState, defBody s_NoState, defScope s_NoState, [], []⟩
def d_NoWay : He.DefD:=⟨("NoWay", some "__init__"), "__init__", "NoWay.__init__", defArgs s_NoWay, defBody s_NoWay, defScope s_NoWay, [], []⟩
def d_TooMany : He.DefD:=⟨("TooMany", some "__init__"), "__init__", "TooMany.__init__", defArgs s_TooMany, defBody s_TooMany, defScope s_TooMany, [], []⟩
def d_Full : He.DefD:=⟨("Full", some "__init__"), "__init__", "Full.__init__", defArgs s_Full, defBody s_Full, defScope s_Full, [], []⟩
def fn : List He.DefD:=[d_marks_of, d_nearest, d_fits, d_present_after, d_gaps_of, d_choose, d_mixings, d_count_rest, d_can_begin, d_gap_table, d_count_after, d_put, d_grown, d_with_anchor, d_count_orders, d_next_places, d_sorted_next, d_next_items, d_anchors_of, d_steps_of, d_is_integer, d_is_order, d_shows_order, d_is_wrong, d_shows_wrong, d_do_cross, d_shows_crossing, d__law_equal, d__law_classes, d__law_base, d__law_errors_right, d__law_draw, d__law_holds, d__law_source, d_law, d_Editor_insert_one, d_Editor_insert_all, d_Editor_listed, d_Editor_anchors, d_Editor_count, d_Editor_order, d_Editor_forget, d_Editor___eq__, d_Editor_operations, d_Editor_as_of, d_Editor___init__, d_Duplicate, d_Misfit, d_Impossible, d_NotLast, d_BadText, d_BadLine, d_Missing, d_NoItem, d_NoOrder, d_NoState, d_NoWay, d_TooMany, d_Full]
def fa : List He.Fa:=[.glo "marks_of", .glo "nearest", .glo "fits", .glo "present_after", .glo "gaps_of", .glo "choose", .glo "mixings", .glo "count_rest", .glo "can_begin", .glo "gap_table", .glo "count_after", .glo "put", .glo "grown", .glo "with_anchor", .glo "count_orders", .glo "next_places", .glo "sorted_next", .glo "next_items", .glo "anchors_of", .glo "steps_of", .glo "is_integer", .glo "is_order", .glo "shows_order", .glo "is_wrong", .glo "shows_wrong", .glo "do_cross", .glo "shows_crossing", .glo "_law_equal", .glo "_law_classes", .glo "_law_base", .glo "_law_errors_right", .glo "_law_draw", .glo "_law_holds", .glo "_law_source", .glo "law", .glo "Editor", .glo "Duplicate", .glo "Misfit", .glo "Impossible", .glo "NotLast", .glo "BadText", .glo "BadLine", .glo "Missing", .glo "NoItem", .glo "NoOrder", .glo "NoState", .glo "NoWay", .glo "TooMany", .glo "Full", .free "IndexError", .free "KeyError", .free "LookupError", .free "NotImplementedError", .free "OverflowError", .free "RuntimeError", .free "ValueError", .free "ZeroDivisionError", .free "abs", .free "all", .free "bool", .free "enumerate", .free "int", .free "isinstance", .free "len", .free "list", .free "max", .free "min", .free "range", .free "sorted", .free "str", .free "sum", .free "tuple", .free "zip", .str "UNKNOWN" "?", .int "MOST_LISTED" 300, .str "BEGIN" "begin", .str "END" "end", .int "MOST_ITEMS" 12, .int "PAIR" 2, .cls "Editor", .mkr "Editor", .noat "Editor" "own_states", .noat "Editor" "own_journal", .meth "Editor" "insert_one", .meth "Editor" "insert_all", .meth "Editor" "listed", .meth "Editor" "anchors", .meth "Editor" "count", .meth "Editor" "order", .meth "Editor" "forget", .meth "Editor" "__eq__", .meth "Editor" "operations", .meth "Editor" "as_of"]
def xl : List XcD:=[⟨"Duplicate", "ValueError.__new__", bmV, flX⟩, ⟨"Misfit", "ValueError.__new__", bmV, flX⟩, ⟨"Impossible", "ValueError.__new__", bmV, flX⟩, ⟨"NotLast", "ValueError.__new__", bmV, flX⟩, ⟨"BadText", "ValueError.__new__", bmV, flX⟩, ⟨"BadLine", "ValueError.__new__", bmV, flX⟩, ⟨"Missing", "LookupError.__new__", bmL, flX⟩, ⟨"NoItem", "LookupError.__new__", bmL, flX⟩, ⟨"NoOrder", "LookupError.__new__", bmL, flX⟩, ⟨"NoState", "LookupError.__new__", bmL, flX⟩, ⟨"NoWay", "RuntimeError.__new__", bmR, flX⟩, ⟨"TooMany", "OverflowError.__new__", bmO, flX⟩, ⟨"Full", "OverflowError.__new__", bmO, flX⟩]
abbrev Rw : PySem.W.OpenRow:=PySem.W.OpenLaw.row PySem.Challenge.rw_afterlist_k43_names_and_errors
abbrev hk : PySem.W.Hook:=hookX 4 xl (ckIns "Editor" (extB LX BX tbP flX)) fa fn
def ob (s : PySem.W.SharedT) : AlX:=obsXG 4 xl (ckIns "Editor" (extB LX BX tbP flX)) fa fn (HandSHeadRun.getT s)
theorem ob_eq (s : PySem.W.SharedT) : ob s = hk.obs s.abs:=obsXG_eq (HandSHeadRun.getT_eq s)

def loose : List Str:=(["_wall", "Duplicate", "Misfit", "Impossible", "NotLast", "BadText", "BadLine", "Missing", "NoItem", "NoOrder", "NoState", "NoWay", "TooMany", "Full", "UNKNOWN", "is_integer", "put", "anchors_of", "steps_of", "choose", "marks_of", "can_begin", "gap_table", "gaps_of", "mixings", "count_rest", "nearest", "fits", "next_places", "MOST_LISTED"] : List Str) ++ (["with_anchor", "sorted_next", "count_orders", "present_after", "count_after", "next_items", "BEGIN", "END", "MOST_ITEMS", "Editor", "grown", "PAIR", "is_wrong", "do_cross", "is_order", "shows_order", "shows_wrong", "shows_crossing", "_law_source", "_law_draw", "_law_equal", "_law_classes", "_law_base", "_law_errors_right", "_law_holds"] : List Str)
def fn_1 : List He.DefD:=[d_marks_of, d_nearest, d_fits, d_present_after, d_gaps_of, d_choose, d_mixings, d_count_rest, d_can_begin, d_gap_table, d_count_after, d_put, d_grown, d_with_anchor, d_count_orders, d_next_places, d_sorted_next, d_next_items, d_anchors_of, d_steps_of, d_is_integer, d_is_order, d_shows_order, d_is_wrong, d_shows_wrong, d_do_cross, d_shows_crossing, d__law_equal, d__law_classes, d__law_base, d__law_errors_right, d__law_draw, d__law_holds, d__law_source, d_law, d_Editor_insert_one, d_Editor_insert_all, d_Editor_listed, d_Editor_anchors, d_Editor_count, d_Editor_order, d_Editor_forget, d_Editor___eq__, d_Editor_operations, d_Editor_as_of, d_Editor___init__, d_Duplicate, d_Misfit, d_Impossible, d_NotLast, d_BadText, d_BadLine, d_Missing, d_NoItem, d_NoOrder, d_NoState, d_NoWay, d_TooMany, d_Full]
def fa_1 : List He.Fa:=[.glo "marks_of", .glo "nearest", .glo "fits", .glo "present_after", .glo "gaps_of", .glo "choose", .glo "mixings", .glo "count_rest", .glo "can_begin", .glo "gap_table", .glo "count_after", .glo "put", .glo "grown", .glo "with_anchor", .glo "count_orders", .glo "next_places", .glo "sorted_next", .glo "next_items", .glo "anchors_of", .glo "steps_of", .glo "is_integer", .glo "is_order", .glo "shows_order", .glo "is_wrong", .glo "shows_wrong", .glo "do_cross", .glo "shows_crossing", .glo "_law_equal", .glo "_law_classes", .glo "_law_base", .glo "_law_errors_right", .glo "_law_draw", .glo "_law_holds", .glo "_law_source", .glo "law", .glo "Editor", .glo "Duplicate", .glo "Misfit", .glo "Impossible", .glo "NotLast", .glo "BadText", .glo "BadLine", .glo "Missing", .glo "NoItem", .glo "NoOrder", .glo "NoState", .glo "NoWay", .glo "TooMany", .glo "Full", .free "IndexError", .free "KeyError", .free "LookupError", .free "NotImplementedError", .free "OverflowError", .free "RuntimeError", .free "ValueError", .free "ZeroDivisionError", .free "abs", .free "all", .free "bool", .free "enumerate", .free "int", .free "isinstance", .free "len", .free "list", .free "max", .free "min", .free "range", .free "sorted", .free "str", .free "sum", .free "tuple", .free "zip", .str "UNKNOWN" "?", .int "MOST_LISTED" 300, .str "BEGIN" "begin", .str "END" "end", .int "MOST_ITEMS" 12, .int "PAIR" 2, .cls "Editor", .mkr "Editor", .noat "Editor" "own_states", .noat "Editor" "own_journal", .meth "Editor" "insert_one", .meth "Editor" "insert_all", .meth "Editor" "listed", .meth "Editor" "anchors", .meth "Editor" "count", .meth "Editor" "order", .meth "Editor" "forget", .meth "Editor" "__eq__", .meth "Editor" "operations", .meth "Editor" "as_of"]
section
open PySem PySem.W PySem.Calls PyProof.Rows HandSHeadRun
theorem run_1 (w : World) : ∀ os : OsState, (endF (stepQ (denQ tabQ) Rw.prog w) 8000 Rw.prog w os).map (fun s => looksF Rw.prog (boot_heap w.params) s.abs) = some true:=by
 intro os
 kernel_rfl
theorem run_2 (w : World) : ∀ os : OsState, (endF (stepQ (denQ tabQ) Rw.prog w) 8000 Rw.prog w os).map (fun s => seenQ (view Rw.prog [63]) loose (importedModules Rw.prog.main.body) (fun s => xlAt (view Rw.prog [63]) [] s && recOk Rw.toRowW.records s) s.abs) = some (openGood (view Rw.prog [63]) loose):=by
 intro os
 kernel_rfl
theorem run_3_0 (w : World) : ∀ os : OsState, (endF (stepQ (denQ tabQ) Rw.prog w) 8000 Rw.prog w os).map (fun s => obsXG 4 xl (ckIns "Editor" (extB LX BX tbP flX)) [] [] (getT s)) = some (true, He.valD []):=by
 intro os
 kernel_rfl
theorem run_3_1 (w : World) : ∀ os : OsState, (endF (stepQ (denQ tabQ) Rw.prog w) 8000 Rw.prog w os).map (fun s => obsXG 4 [] (fun _ => true) fa_1 fn_1 (getT s)) = some (true, He.valD fn_1):=by
 intro os
 kernel_rfl
theorem fn_split : fn = [] ++ (fn_1):=rfl
theorem fa_split : fa = [] ++ (fa_1):=rfl
theorem run_3 (w : World) : ∀ os : OsState, (endF (stepQ (denQ tabQ) Rw.prog w) 8000 Rw.prog w os).map (fun s => ob s) = some (hk.val w):=by
 intro os
 have h:=obs_and (run_3_0 w os) (run_3_1 w os)
 rw [← fn_split, ← fa_split] at h
 exact h
end
theorem run (w : World) : HandSHeadRun.RunEq Rw (PySem.W.view Rw.prog [63]) hk ob 8000 loose w:=by
 intro os
 exact run_and (run_1 w os) (run_and (run_2 w os) (run_3 w os))
end K43
namespace Vz
open PySem PySem.Spec PyProof.Rows L2
inductive Fl where
 | any | key | nod
 deriving DecidableEq
inductive D where
 | none | bool (b : Bool) | int (i : Int) | str (x : Str)
 | list (xs : List D) | tup (f : Fl) (xs : List D)
 | dT (ps : List (List Key × D)) | dK (ps : List (Key × D))
abbrev D.t (xs : List D) : D:=.tup .nod xs
def TN (K : PySem.W.Frag) (F : Hp) (a : Addr) (vs : List V) : Prop:=(∃ o, F a = some (.frz o (.tup vs)) ∧ o.dict = none) ∨
 ∃ (o : Obj) (its : Array Value) (n : Nat), K.lookup a = some o ∧ o.cls = .type "tuple" ∧ o.dict = none ∧ o.data = .seq its n ∧ its.size ≤ sizeLine ∧ Vals vs its.toList
def TF (K : PySem.W.Frag) (F : Hp) (f : Fl) (a : Addr) (vs : List V) : Prop:=match f with
 | .any => SqT K F a vs
 | .key => F a = some (.tup vs)
 | .nod => TN K F a vs
theorem TN.sq {K : PySem.W.Frag} {F : Hp} {a : Addr} {vs : List V} (h : TN K F a vs) : SqT K F a vs:=by
 rcases h with ⟨o, h, _⟩ | ⟨o, its, n, h1, h2, _, h3⟩
 ·exact .inl (.inr ⟨o, h⟩)
 ·exact .inr ⟨o, its, n, h1, h2, h3⟩
theorem TF.sq {K : PySem.W.Frag} {F : Hp} {f : Fl} {a : Addr} {vs : List V} (h : TF K F f a vs) : SqT K F a vs:=by
 cases f with
 | any => exact h
 | key => exact .of h
 | nod => exact TN.sq h
theorem TF.mono {K : PySem.W.Frag} {F F' : Hp} {f : Fl} {a : Addr} {vs : List V} (e : Evl.Ex F F') (h : TF K F f a vs) : TF K F' f a vs:=by
 cases f with
 | any => exact Evl.ex_t e h
 | key => exact e _ _ h
 | nod =>
  rcases h with ⟨o, h, d⟩ | h
  ·exact .inl ⟨o, e _ _ h, d⟩
  ·exact .inr h

mutual
inductive Rep (K : PySem.W.Frag) (F : Hp) : D → V → Prop
 | non : Rep K F .none .non
 | bl (b : Bool) : Rep K F (.bool b) (.bl b)
 | int (i : Int) : Rep K F (.int i) (.int i)
 | str (x : Str) : Rep K F (.str x) (.str x)
 | lst {a : Addr} {vs : List V} {xs : List D} : F a = some (.lst vs) → Reps K F xs vs → Rep K F (.list xs) (.ref a)
 | tup {f : Fl} {a : Addr} {vs : List V} {xs : List D} : TF K F f a vs → Reps K F xs vs → Rep K F (.tup f xs) (.ref a)
 | dT {a : Addr} {ks : List (List Key × V)} {ps : List (List Key × D)} : F a = some (.dT ks) → RepT K F ps ks → Rep K F (.dT ps) (.ref a)
 | dK {a : Addr} {ks : List (Key × V)} {ps : List (Key × D)} : F a = some (.dK ks) → RepK K F ps ks → Rep K F (.dK ps) (.ref a)
inductive Reps (K : PySem.W.Frag) (F : Hp) : List D → List V → Prop
 | nil : Reps K F [] []
 | cons {d : D} {ds : List D} {v : V} {vs : List V} : Rep K F d v → Reps K F ds vs → Reps K F (d :: ds) (v :: vs)
inductive RepT (K : PySem.W.Frag) (F : Hp) : List (List Key × D) → List (List Key × V) → Prop
 | nil : RepT K F [] []
 | cons {d : D} {ps : List (List Key × D)} {k : List Key} {v : V} {ks : List (List Key × V)} : Rep K F d v → RepT K F ps ks → RepT K F ((k, d) :: ps) ((k, v) :: ks)
inductive RepK (K : PySem.W.Frag) (F : Hp) : List (Key × D) → List (Key × V) → Prop
 | nil : RepK K F [] []
 | cons {d : D} {ps : List (Key × D)} {k : Key} {v : V} {ks : List (Key × V)} : Rep K F d v → RepK K F ps ks → RepK K F ((k, d) :: ps) ((k, v) :: ks)
end

abbrev Ex:=Evl.Ex
section
variable {K : PySem.W.Frag} {F F' H : Hp}
theorem sql_mono {a : Addr} {vs : List V} (e : Ex F F') (h : SqL K F a vs) : SqL K F' a vs:=Evl.ex_l e h
theorem sqt_mono {a : Addr} {vs : List V} (e : Ex F F') (h : SqT K F a vs) : SqT K F' a vs:=Evl.ex_t e h
mutual
theorem Rep.mono (e : Ex F F') : ∀ {d : D} {v : V}, Rep K F d v → Rep K F' d v
 | _, _, .non => .non
 | _, _, .bl b => .bl b
 | _, _, .int i => .int i
 | _, _, .str x => .str x
 | _, _, .lst h r => .lst (e _ _ h) (Reps.mono e r)
 | _, _, .tup h r => .tup (h.mono e) (Reps.mono e r)
 | _, _, .dT h r => .dT (e _ _ h) (RepT.mono e r)
 | _, _, .dK h r => .dK (e _ _ h) (RepK.mono e r)
theorem Reps.mono (e : Ex F F') : ∀ {d : List D} {v : List V}, Reps K F d v → Reps K F' d v
 | _, _, .nil => .nil
 | _, _, .cons h r => .cons (Rep.mono e h) (Reps.mono e r)
theorem RepT.mono (e : Ex F F') : ∀ {d : List (List Key × D)} {v : List (List Key × V)}, RepT K F d v → RepT K F' d v
 | _, _, .nil => .nil
 | _, _, .cons h r => .cons (Rep.mono e h) (RepT.mono e r)
theorem RepK.mono (e : Ex F F') : ∀ {d : List (Key × D)} {v : List (Key × V)}, RepK K F d v → RepK K F' d v
 | _, _, .nil => .nil
 | _, _, .cons h r => .cons (Rep.mono e h) (RepK.mono e r)
end
theorem Reps.length : ∀ {ds : List D} {vs : List V}, Reps K F ds vs → ds.length = vs.length
 | _, _, .nil => rfl
 | _, _, .cons _ r => congrArg Nat.succ (Reps.length r)
theorem Reps.append : ∀ {ds es : List D} {vs ws : List V}, Reps K F ds vs → Reps K F es ws → Reps K F (ds ++ es) (vs ++ ws)
 | _, _, _, _, .nil, r => r
 | _, _, _, _, .cons h r, q => .cons h (Reps.append r q)
theorem Reps.take : ∀ {ds : List D} {vs : List V} (n : Nat), Reps K F ds vs → Reps K F (ds.take n) (vs.take n)
 | _, _, 0, _ => .nil
 | _, _, _ + 1, .nil => .nil
 | _, _, n + 1, .cons h r => .cons h (Reps.take n r)
theorem Reps.drop : ∀ {ds : List D} {vs : List V} (n : Nat), Reps K F ds vs → Reps K F (ds.drop n) (vs.drop n)
 | _, _, 0, r => r
 | _, _, _ + 1, .nil => .nil
 | _, _, n + 1, .cons _ r => Reps.drop n r
theorem Reps.set {d : D} {v : V} (h : Rep K F d v) : ∀ {ds : List D} {vs : List V} (i : Nat), Reps K F ds vs → Reps K F (ds.set i d) (vs.set i v)
 | _, _, _, .nil => .nil
 | _, _, 0, .cons _ r => .cons h r
 | _, _, i + 1, .cons g r => .cons g (Reps.set h i r)
theorem Reps.eraseIdx : ∀ {ds : List D} {vs : List V} (i : Nat), Reps K F ds vs → Reps K F (ds.eraseIdx i) (vs.eraseIdx i)
 | _, _, _, .nil => .nil
 | _, _, 0, .cons _ r => r
 | _, _, i + 1, .cons g r => .cons g (Reps.eraseIdx i r)
theorem Reps.reverse : ∀ {ds : List D} {vs : List V}, Reps K F ds vs → Reps K F ds.reverse vs.reverse
 | _, _, .nil => .nil
 | _, _, .cons g r => by
  rw [List.reverse_cons, List.reverse_cons]
  exact Reps.append (Reps.reverse r) (.cons g .nil)
theorem Reps.get : ∀ {ds : List D} {vs : List V} {i : Nat} {d : D}, Reps K F ds vs → ds[i]? = some d → ∃ v, vs[i]? = some v ∧ Rep K F d v
 | _, _, _, _, .nil, e => by simp at e
 | _, _, 0, _, .cons h _, e => by
  simp at e
  subst e
  exact ⟨_, rfl, h⟩
 | _, _, i + 1, d, .cons _ r, e => by
  obtain ⟨v, h1, h2⟩:=Reps.get (i:=i) (d:=d) r (by simpa using e)
  exact ⟨v, by simpa using h1, h2⟩
theorem Reps.one {d : D} {vs : List V} (r : Reps K F [d] vs) : ∃ v, vs = [v] ∧ Rep K F d v:=by
 cases r with
 | cons h r => cases r; exact ⟨_, rfl, h⟩
theorem Reps.two {d e : D} {vs : List V} (r : Reps K F [d, e] vs) : ∃ v w, vs = [v, w] ∧ Rep K F d v ∧ Rep K F e w:=by
 cases r with
 | cons h r =>
  obtain ⟨w, rfl, h2⟩:=r.one
  exact ⟨_, _, rfl, h, h2⟩
def flatD : D → Option V
 | .none => some .non
 | .bool b => some (.bl b)
 | .int i => some (.int i)
 | .str x => some (.str x)
 | _ => none
theorem Rep.flat {d : D} {v u : V} (h : Rep K F d v) (e : flatD d = some u) : v = u:=by
 cases h with
 | non => exact Option.some.inj e
 | bl b => exact Option.some.inj e
 | int i => exact Option.some.inj e
 | str x => exact Option.some.inj e
 | lst _ _ => exact nomatch e
 | tup _ _ => exact nomatch e
 | dT _ _ => exact nomatch e
 | dK _ _ => exact nomatch e
theorem Rep.of_flat {d : D} {u : V} (e : flatD d = some u) : Rep K F d u:=by
 cases d with
 | none => cases Option.some.inj e; exact .non
 | bool b => cases Option.some.inj e; exact .bl b
 | int i => cases Option.some.inj e; exact .int i
 | str x => cases Option.some.inj e; exact .str x
 | _ => exact nomatch e
theorem Reps.ints : ∀ {ns : List Int} {vs : List V}, Reps K F (ns.map D.int) vs → vs = ns.map V.int
 | [], _, h => by cases h; rfl
 | n :: ns, _, h => by
  cases h with
  | cons h r =>
   cases h
   rw [Reps.ints r]; rfl
theorem Reps.of_ints : ∀ (ns : List Int), Reps K F (ns.map D.int) (ns.map V.int)
 | [] => .nil
 | n :: ns => .cons (.int n) (Reps.of_ints ns)
end

structure Exn where
 cls : Str
 fs : List (Str × D)
inductive W where
 | dat (d : D)
 | loc (k j : Nat)
 | scr (ns : List Int)
 | exn (x : Exn)
 | xl (xs : List Exn)
inductive C where
 | lst (xs : List D)
 | frz (d : D)
 | dT (ps : List (List Key × D))
 | dK (ps : List (Key × D))
 | ll (xss : List (List D))
 | ins (cl : Str) (fs : List (Str × List D))
 | old (rows : List (Str × List (Str × List D) × D × D))
abbrev Sto:=List C
abbrev Rho:=List (Option W)

structure Tb where
 cls : Str → Option Addr
 /-- what besides stands still -/
 G : Hp
 /-- tables of code objects, with the names of what they hold -/
 tabs : List (Addr × Str)
def Tb.g (T : Tb) (G : Hp) : Tb:={ T with G:=G }

def InsOk (tc : Str → Option Addr) (K : PySem.W.Frag) (F H : Hp) (as : List Addr) (cl : Str) (fs : List (Str × List D)) : Prop:=∃ a dx bs ca, as = a :: dx :: bs ∧ tc cl = some ca ∧ F a = none ∧ F dx = none ∧ H dx = some (.own a) ∧ H a = some (.ins ca dx ((fs.map (·.1)).zip (bs.map V.ref))) ∧
   Paired (fun (p : Str × List D) b => F b = none ∧ ∃ vs, H b = some (.lst vs) ∧ Reps K F p.2 vs) fs bs
inductive OldP (tc : Str → Option Addr) (K : PySem.W.Frag) (F H : Hp) : List (Str × List (Str × List D) × D × D) → List V → List Addr → Prop
 | nil : OldP tc K F H [] [] []
 | cons {q p : Addr} {r rest : List Addr} {v2 v3 : V} {vs : List V} {cl : Str} {fs : List (Str × List D)} {d2 d3 : D} {rows : List (Str × List (Str × List D) × D × D)} : F q = some (.tup [.ref p, v2, v3]) → Rep K F d2 v2 → Rep K F d3 v3 → InsOk tc K F H (p :: r) cl fs → OldP tc K F H rows vs rest → OldP tc K F H ((cl, fs, d2, d3) :: rows) (.ref q :: vs) ((p :: r) ++ rest)
def COk (T : Tb) (K : PySem.W.Frag) (F H : Hp) (as : List Addr) : C → Prop
 | .lst xs => ∃ a vs, as = [a] ∧ F a = none ∧ H a = some (.lst vs) ∧ Reps K F xs vs
 | .frz d => ∃ a r, as = a :: r ∧ Rep K F d (.ref a)
 | .dT ps => ∃ a ks, as = [a] ∧ F a = none ∧ H a = some (.dT ks) ∧ RepT K F ps ks
 | .dK ps => ∃ a ks, as = [a] ∧ F a = none ∧ H a = some (.dK ks) ∧ RepK K F ps ks
 | .ll xss => ∃ a bs, as = a :: bs ∧ F a = none ∧ H a = some (.lst (bs.map V.ref)) ∧ Paired (fun xs b => F b = none ∧ ∃ vs, H b = some (.lst vs) ∧ Reps K F xs vs) xss bs
 | .ins cl fs => InsOk T.cls K F H as cl fs
 | .old rows => ∃ a bs vs, as = a :: bs ∧ F a = none ∧ H a = some (.lst vs) ∧ OldP T.cls K F H rows vs bs

structure TabOk (T : Tb) (F : Hp) (A : List (List Addr)) (H : Hp) : Prop where
 tabs : LamX.Tabs T.tabs H
 f : ∀ p ∈ T.tabs, F p.1 = none
 g : ∀ p ∈ T.tabs, T.G p.1 = none
 a : ∀ p ∈ T.tabs, p.1 ∉ A.flatten
 nf : ∀ b ps, F b ≠ some (.tbl ps)
 ng : ∀ b ps, T.G b ≠ some (.tbl ps)
 na : ∀ b ∈ A.flatten, ∀ ps, H b ≠ some (.tbl ps)
section
variable {T T' : Tb} {F F' H H' : Hp} {A A' : List (List Addr)}
theorem TabOk.n1 (h : TabOk T F A H) {p : Addr × Str} (hp : p ∈ T.tabs) {b : Addr} (hb : H b = none) : p.1 ≠ b:=fun z => by
 obtain ⟨ps, h1, _⟩:=h.tabs p hp
 rw [z, hb] at h1
 cases h1
theorem TabOk.n2 (h : TabOk T F A H) {p : Addr × Str} (hp : p ∈ T.tabs) {b : Addr} {o : HO} (hb : H b = some o) (ho : ∀ ps, o ≠ .tbl ps) : p.1 ≠ b:=fun z => by
 obtain ⟨ps, h1, _⟩:=h.tabs p hp
 rw [z, hb] at h1
 exact ho ps (Option.some.inj h1)
theorem TabOk.n3 (h : TabOk T F A H) {p : Addr × Str} (hp : p ∈ T.tabs) {b : Addr} (hb : b ∈ A.flatten) : p.1 ≠ b:=fun z => h.a p hp (by rw [z]; exact hb)
theorem tabs_upd {Ts : List (Addr × Str)} {b : Addr} {o o0 : HO} (t : LamX.Tabs Ts H) (hb : H b = some o0) (h1 : ∀ ps, o0 ≠ .tbl ps) (h2 : ∀ φ, o0 ≠ .ext φ) : LamX.Tabs Ts (upd H b o):=fun p hp => by
 obtain ⟨ps, q1, q2, q3⟩:=t p hp
 refine ⟨ps, by rw [upd_ne]; exact q1; exact fun z => by rw [z, hb] at q1; exact h1 _ (Option.some.inj q1), q2, fun pos cv hc => ?_⟩
 obtain ⟨c, e1, e2⟩:=q3 pos cv hc
 refine ⟨c, e1, ?_⟩
 rw [upd_ne]
 ·exact e2
 ·intro z
  rw [z, hb] at e2
  unfold LamX.CodeO at e2
  exact h2 _ (Option.some.inj e2)
theorem TabOk.ext (h : TabOk T F A H) (e : Evl.Ex H H') (th : ∀ a ∈ A.flatten, (H a).isSome) (hf : ∀ p ∈ T.tabs, F' p.1 = none) (nf : ∀ b ps, F' b ≠ some (.tbl ps)) : TabOk T F' A H' where
 tabs:=LamX.Tabs.ext h.tabs e
 f:=hf
 g:=h.g
 a:=h.a
 nf:=nf
 ng:=h.ng
 na:=fun b hb ps z => by
  cases q : H b with
  | none =>
   have:=th b hb
   rw [q] at this
   cases this
  | some o =>
   rw [e b o q] at z
   cases z
   exact h.na b hb ps q
end
structure Wd (T : Tb) (K : PySem.W.Frag) (F : Hp) (A : List (List Addr)) (S : Sto) (H : Hp) : Prop where
 sub : Ex F H
 len : A.length = S.length
 ok : ∀ (k : Nat) as c, A[k]? = some as → S[k]? = some c → COk T K F H as c
 nod : A.flatten.Nodup
 there : ∀ a ∈ A.flatten, (H a).isSome
 gh : Ex T.G H
 gd : ∀ a ∈ A.flatten, T.G a = none
 fg : ∀ a o, F a = some o → T.G a = none ∨ ∃ vs, o = .tup vs
 tb : TabOk T F A H

def exnHO (a ca : Addr) (d : Option Addr) : HO:=.ext fun h => ∃ (oe : Obj) (us : Array Value), h.get? a = some oe ∧ oe.cls = .ref ca ∧ oe.dict = d ∧ oe.data = .fields us
def ExnAt (K : PySem.W.Frag) (F : Hp) (x : Exn) (a : Addr) : Prop:=∃ d, F a = some (exnHO a (He.ga K x.cls) d) ∧ ((x.fs = [] ∧ d = none) ∨ ∃ dd vfs, d = some dd ∧ F dd = some (.xd vfs) ∧ Paired (fun (p : Str × D) (q : Str × V) => p.1 = q.1 ∧ Rep K F p.2 q.2) x.fs vfs)
theorem ExnAt.mono {K : PySem.W.Frag} {F F' : Hp} {x : Exn} {a : Addr} (e : Ex F F') (h : ExnAt K F x a) : ExnAt K F' x a:=by
 obtain ⟨d, h1, h2⟩:=h
 refine ⟨d, e _ _ h1, ?_⟩
 rcases h2 with h2 | ⟨dd, vfs, h3, h4, h5⟩
 ·exact .inl h2
 ·exact .inr ⟨dd, vfs, h3, e _ _ h4, Paired.mapP h5 fun _ _ q => ⟨q.1, q.2.mono e⟩⟩
def RepW (K : PySem.W.Frag) (F : Hp) (A : List (List Addr)) : W → V → Prop
 | .dat d, v => Rep K F d v
 | .loc k j, v => ∃ as a, A[k]? = some as ∧ as[j]? = some a ∧ v = .ref a
 | .scr ns, v => ∃ a, v = .ref a ∧ SqL K F a (ns.map V.int)
 | .exn x, v => ∃ a, v = .ref a ∧ ExnAt K F x a
 | .xl xs, v => ∃ a, v = .ref a ∧ ∃ vs, F a = some (.lst vs) ∧ Paired (fun x u => ∃ b, u = V.ref b ∧ ExnAt K F x b) xs vs
def Pre (A A' : List (List Addr)) : Prop:=∀ (k : Nat) as, A[k]? = some as → A'[k]? = some as
theorem Pre.refl (A : List (List Addr)) : Pre A A:=fun _ _ h => h
theorem Pre.trans {A B C : List (List Addr)} (a : Pre A B) (b : Pre B C) : Pre A C:=fun k as h => b k as (a k as h)
theorem Pre.push (A : List (List Addr)) (x : List Addr) : Pre A (A ++ [x]):=fun k as h => by
 rw [List.getElem?_append_left (List.getElem?_eq_some_iff.mp h).1]; exact h
theorem RepW.mono {K : PySem.W.Frag} {F F' : Hp} {A A' : List (List Addr)} {w : W} {v : V} (e : Ex F F') (p : Pre A A') (h : RepW K F A w v) : RepW K F' A' w v:=by
 cases w with
 | dat d => exact Rep.mono e h
 | loc k j =>
  obtain ⟨as, a, h1, h2, h3⟩:=h
  exact ⟨as, a, p _ _ h1, h2, h3⟩
 | scr ns =>
  obtain ⟨a, h1, h2⟩:=h
  exact ⟨a, h1, sql_mono e h2⟩
 | exn x =>
  obtain ⟨a, h1, h2⟩:=h
  exact ⟨a, h1, h2.mono e⟩
 | xl xs =>
  obtain ⟨a, h1, vs, h2, h3⟩:=h
  exact ⟨a, h1, vs, e _ _ h2, Paired.mapP h3 fun _ _ q => let ⟨b, q1, q2⟩:=q; ⟨b, q1, q2.mono e⟩⟩
def RepWs (K : PySem.W.Frag) (F : Hp) (A : List (List Addr)) : List W → List V → Prop:=Paired (RepW K F A)
theorem RepWs.mono {K : PySem.W.Frag} {F F' : Hp} {A A' : List (List Addr)} {ws : List W} {vs : List V} (e : Ex F F') (p : Pre A A') (h : RepWs K F A ws vs) : RepWs K F' A' ws vs :=
 Paired.mapP h fun _ _ x => x.mono e p
structure Sl (K : PySem.W.Frag) (F : Hp) (A : List (List Addr)) (ρ : Rho) (σ : L2.St) : Prop where
 len : ρ.length = σ.length
 at_ : ∀ (i : Nat) w, ρ[i]? = some (some w) → ∃ v, σ[i]? = some (some v) ∧ RepW K F A w v
theorem Sl.mono {K : PySem.W.Frag} {F F' : Hp} {A A' : List (List Addr)} {ρ : Rho} {σ : L2.St} (e : Ex F F') (p : Pre A A') (h : Sl K F A ρ σ) : Sl K F' A' ρ σ :=
 ⟨h.len, fun i w q => let ⟨v, h1, h2⟩:=h.at_ i w q; ⟨v, h1, h2.mono e p⟩⟩
theorem Sl.set {K : PySem.W.Frag} {F : Hp} {A : List (List Addr)} {ρ : Rho} {σ : L2.St} {w : W} {v : V} (h : Sl K F A ρ σ) (i : Nat) (r : RepW K F A w v) : Sl K F A (ρ.set i (some w)) (σ.set i (some v)):=by
 refine ⟨by rw [List.length_set, List.length_set]; exact h.len, fun j w' q => ?_⟩
 by_cases hj : i = j
 ·subst hj
  have hi : i < ρ.length:=by
   have q':=(List.getElem?_eq_some_iff.mp q).1
   rwa [List.length_set] at q'
  rw [List.getElem?_set_self hi] at q
  cases q
  exact ⟨v, by rw [List.getElem?_set_self (by rw [← h.len]; exact hi)], r⟩
 ·rw [List.getElem?_set_ne hj] at q
  obtain ⟨v', h1, h2⟩:=h.at_ j w' q
  exact ⟨v', by rw [List.getElem?_set_ne hj]; exact h1, h2⟩

inductive R (α : Type) where
 | ok (a : α) (S : Sto)
 | exc (x : Exn) (S : Sto)
 | bad
def R.bind {α β : Type} (r : R α) (k : α → Sto → R β) : R β:=match r with
 | .ok a S => k a S
 | .exc x S => .exc x S
 | .bad => .bad
inductive Out where
 | nx (ρ : Rho) (S : Sto)
 | rt (w : W) (S : Sto)
 | bk (ρ : Rho) (S : Sto)
 | ct (ρ : Rho) (S : Sto)
 | exc (x : Exn) (ρ : Rho) (S : Sto)
 | bad
end Vz
namespace Vz
open PySem PySem.Spec PyProof.Rows L2

def rd (S : Sto) : W → Option D
 | .dat d => some d
 | .scr _ => none
 | .exn _ => none
 | .xl _ => none
 | .loc k 0 => match S[k]? with
  | some (.lst xs) => some (.list xs)
  | some (.frz d) => some d
  | some (.dT ps) => some (.dT ps)
  | some (.dK ps) => some (.dK ps)
  | _ => none
 | .loc k (j + 1) => match S[k]? with
  | some (.ll xss) => (xss[j]?).map D.list
  | some (.ins _ fs) => (match j with
   | 0 => none
   | i + 1 => (fs[i]?).map fun p => D.list p.2)
  | _ => none
inductive RepU (K : PySem.W.Frag) (F H : Hp) : D → V → Prop
 | flat {d : D} {v : V} : flatD d = some v → RepU K F H d v
 | lst {a : Addr} {vs : List V} {xs : List D} : H a = some (.lst vs) → Reps K F xs vs → RepU K F H (.list xs) (.ref a)
 | tup {f : Fl} {a : Addr} {vs : List V} {xs : List D} : TF K F f a vs → SqT K H a vs → Reps K F xs vs → RepU K F H (.tup f xs) (.ref a)
 | dT {a : Addr} {ks : List (List Key × V)} {ps : List (List Key × D)} : H a = some (.dT ks) → RepT K F ps ks → RepU K F H (.dT ps) (.ref a)
 | dK {a : Addr} {ks : List (Key × V)} {ps : List (Key × D)} : H a = some (.dK ks) → RepK K F ps ks → RepU K F H (.dK ps) (.ref a)
theorem prd_get {α β : Type} {G : α → β → Prop} : ∀ {xs : List α} {ys : List β} {i : Nat} {x : α}, Paired G xs ys → xs[i]? = some x → ∃ y, ys[i]? = some y ∧ G x y
 | _, _, _, _, .nil, e => by simp at e
 | _, _, 0, _, .cons h _, e => by
  simp at e
  subst e
  exact ⟨_, rfl, h⟩
 | _, _, i + 1, x, .cons _ r, e => by
  obtain ⟨y, h1, h2⟩:=prd_get (i:=i) (x:=x) r (by simpa using e)
  exact ⟨y, by simpa using h1, h2⟩
section
variable {T : Tb} {K : PySem.W.Frag} {F H : Hp} {A : List (List Addr)} {S : Sto} {w : W} {v : V} {d : D}
theorem Rep.u (e : Ex F H) (r : Rep K F d v) : RepU K F H d v:=by
 cases r with
 | non => exact .flat rfl
 | bl b => exact .flat rfl
 | int i => exact .flat rfl
 | str x => exact .flat rfl
 | lst h r => exact .lst (e _ _ h) r
 | tup h r => exact .tup h (sqt_mono e h.sq) r
 | dT h r => exact .dT (e _ _ h) r
 | dK h r => exact .dK (e _ _ h) r
theorem RepU.rep (e : Ex F H) (r : RepU K F H d v) : Rep K H d v:=by
 cases r with
 | flat h => exact .of_flat h
 | lst h r => exact .lst h (r.mono e)
 | tup h _ r => exact .tup (h.mono e) (r.mono e)
 | dT h r => exact .dT h (r.mono e)
 | dK h r => exact .dK h (r.mono e)
theorem rd_rep (hw : Wd T K F A S H) (r : RepW K F A w v) (e : rd S w = some d) : RepU K F H d v:=by
 cases w with
 | dat d' =>
  cases Option.some.inj e
  exact Rep.u hw.sub r
 | scr ns => exact nomatch e
 | exn x => exact nomatch e
 | xl x => exact nomatch e
 | loc k j =>
  obtain ⟨as, a, h1, h2, rfl⟩:=r
  cases j with
  | zero =>
   cases q : S[k]? with
   | none => simp only [rd, q] at e; exact nomatch e
   | some c =>
    have c1:=hw.ok k as c h1 q
    simp only [rd, q] at e
    cases c with
    | lst xs =>
     cases Option.some.inj e
     obtain ⟨b, vs, rfl, _, hb, hr⟩:=c1
     cases Option.some.inj h2
     exact .lst hb hr
    | frz d' =>
     cases Option.some.inj e
     obtain ⟨b, r, rfl, hr⟩:=c1
     cases Option.some.inj h2
     exact hr.u hw.sub
    | dT ps =>
     cases Option.some.inj e
     obtain ⟨b, ks, rfl, _, hb, hr⟩:=c1
     cases Option.some.inj h2
     exact .dT hb hr
    | dK ps =>
     cases Option.some.inj e
     obtain ⟨b, ks, rfl, _, hb, hr⟩:=c1
     cases Option.some.inj h2
     exact .dK hb hr
    | ll xss => exact nomatch e
    | ins cl fs => exact nomatch e
    | old rows => exact nomatch e
  | succ j =>
   cases q : S[k]? with
   | none => simp only [rd, q] at e; exact nomatch e
   | some c =>
    have c1:=hw.ok k as c h1 q
    simp only [rd, q] at e
    cases c with
    | lst xs => exact nomatch e
    | frz d' => exact nomatch e
    | dT ps => exact nomatch e
    | dK ps => exact nomatch e
    | old rows => exact nomatch e
    | ll xss =>
     obtain ⟨b, bs, rfl, _, _, hr⟩:=c1
     cases q2 : xss[j]? with
     | none => simp only [q2] at e; exact nomatch e
     | some xs =>
      simp only [q2] at e
      cases Option.some.inj e
      obtain ⟨b', hb1, _, vs, hb2, hr2⟩:=prd_get hr q2
      have : a = b':=by
       rw [List.getElem?_cons_succ, hb1] at h2
       exact (Option.some.inj h2).symm
      subst this
      exact .lst hb2 hr2
    | ins cl fs =>
     obtain ⟨b, dx, bs, ca, rfl, _, _, _, _, _, hr⟩:=c1
     cases j with
     | zero => exact nomatch e
     | succ i =>
      cases q2 : fs[i]? with
      | none => simp only [q2] at e; exact nomatch e
      | some p =>
       simp only [q2] at e
       cases Option.some.inj e
       obtain ⟨b', hb1, _, vs, hb2, hr2⟩:=prd_get hr q2
       have : a = b':=by
        rw [List.getElem?_cons_succ, List.getElem?_cons_succ, hb1] at h2
        exact (Option.some.inj h2).symm
       subst this
       exact .lst hb2 hr2

theorem InsOk.more {tc : Str → Option Addr} {F' H' : Hp} {as : List Addr} {cl : Str} {fs : List (Str × List D)} (h : InsOk tc K F H as cl fs) (e : Ex F F') (k : ∀ a ∈ as, F a = none → F' a = none) (g : ∀ a ∈ as, F a = none → H' a = H a) : InsOk tc K F' H' as cl fs:=by
 obtain ⟨a, dx, bs, ca, rfl, h0, h1, h2, h3, h4, h5⟩:=h
 refine ⟨a, dx, bs, ca, rfl, h0, k a (by simp) h1, k dx (by simp) h2, by rw [g dx (by simp) h2]; exact h3, by rw [g a (by simp) h1]; exact h4, ?_⟩
 have k' : ∀ b ∈ bs, F b = none → F' b = none:=fun b hb => k b (List.mem_cons_of_mem _ (List.mem_cons_of_mem _ hb))
 have g' : ∀ b ∈ bs, F b = none → H' b = H b:=fun b hb => g b (List.mem_cons_of_mem _ (List.mem_cons_of_mem _ hb))
 clear h4 k g
 induction h5 with
 | nil => exact .nil
 | cons q _ ih =>
  obtain ⟨q1, vs, q2, q3⟩:=q
  exact .cons ⟨k' _ (by simp) q1, vs, by rw [g' _ (by simp) q1]; exact q2, q3.mono e⟩ (ih (fun b hb => k' b (List.mem_cons_of_mem _ hb)) fun b hb => g' b (List.mem_cons_of_mem _ hb))
theorem OldP.more {tc : Str → Option Addr} {F' H' : Hp} {rows : List (Str × List (Str × List D) × D × D)} {vs : List V} {bs : List Addr} (h : OldP tc K F H rows vs bs) (e : Ex F F') (k : ∀ a ∈ bs, F a = none → F' a = none) (g : ∀ a ∈ bs, F a = none → H' a = H a) : OldP tc K F' H' rows vs bs:=by
 induction h with
 | nil => exact .nil
 | cons h1 h2 h3 h4 _ ih => exact .cons (e _ _ h1) (h2.mono e) (h3.mono e) (h4.more e (fun a ha => k a (List.mem_append_left _ ha)) fun a ha => g a (List.mem_append_left _ ha)) (ih (fun a ha => k a (List.mem_append_right _ ha)) fun a ha => g a (List.mem_append_right _ ha))
theorem InsOk.at_ {tc : Str → Option Addr} {as : List Addr} {cl : Str} {fs : List (Str × List D)} (h : InsOk tc K F H as cl fs) : ∀ b ∈ as, (∀ vs, H b ≠ some (.tup vs)) ∧ ∀ o vs, H b ≠ some (.frz o (.tup vs)):=by
 obtain ⟨a, dx, bs, ca, rfl, h0, h1, h2, h3, h4, h5⟩:=h
 intro b hb
 rcases List.mem_cons.mp hb with rfl | hb
 ·rw [h4]; exact ⟨fun _ z => (by cases z), fun _ _ z => (by cases z)⟩
 rcases List.mem_cons.mp hb with rfl | hb
 ·rw [h3]; exact ⟨fun _ z => (by cases z), fun _ _ z => (by cases z)⟩
 clear h4
 induction h5 with
 | nil => cases hb
 | cons q _ ih =>
  obtain ⟨q1, vs, q2, q3⟩:=q
  rcases List.mem_cons.mp hb with rfl | hb
  ·rw [q2]; exact ⟨fun _ z => (by cases z), fun _ _ z => (by cases z)⟩
  ·exact ih (List.mem_cons_of_mem _ (List.mem_cons_of_mem _ hb)) (List.mem_cons_of_mem _ hb) hb
theorem OldP.at_ {tc : Str → Option Addr} {rows : List (Str × List (Str × List D) × D × D)} {vs : List V} {bs : List Addr} (h : OldP tc K F H rows vs bs) : ∀ b ∈ bs, (∀ vs, H b ≠ some (.tup vs)) ∧ ∀ o vs, H b ≠ some (.frz o (.tup vs)):=by
 induction h with
 | nil => intro b hb; cases hb
 | cons h1 h2 h3 h4 _ ih =>
  intro b hb
  rcases List.mem_append.mp hb with hb | hb
  ·exact h4.at_ b hb
  ·exact ih b hb
theorem COk.more {F' H' : Hp} {as : List Addr} {c : C} (h : COk T K F H as c) (e : Ex F F') (k : ∀ a ∈ as, F a = none → F' a = none) (g : ∀ a ∈ as, F a = none → H' a = H a) : COk T K F' H' as c:=by
 cases c with
 | lst xs =>
  obtain ⟨a, vs, rfl, h1, h2, h3⟩:=h
  exact ⟨a, vs, rfl, k a (by simp) h1, by rw [g a (by simp) h1]; exact h2, h3.mono e⟩
 | frz d =>
  obtain ⟨a, r, rfl, h1⟩:=h
  exact ⟨a, r, rfl, h1.mono e⟩
 | dT ps =>
  obtain ⟨a, vs, rfl, h1, h2, h3⟩:=h
  exact ⟨a, vs, rfl, k a (by simp) h1, by rw [g a (by simp) h1]; exact h2, h3.mono e⟩
 | dK ps =>
  obtain ⟨a, vs, rfl, h1, h2, h3⟩:=h
  exact ⟨a, vs, rfl, k a (by simp) h1, by rw [g a (by simp) h1]; exact h2, h3.mono e⟩
 | ll xss =>
  obtain ⟨a, bs, rfl, h1, h2, h3⟩:=h
  refine ⟨a, bs, rfl, k a (by simp) h1, by rw [g a (by simp) h1]; exact h2, ?_⟩
  have k' : ∀ b ∈ bs, F b = none → F' b = none:=fun b hb => k b (List.mem_cons_of_mem _ hb)
  have g' : ∀ b ∈ bs, F b = none → H' b = H b:=fun b hb => g b (List.mem_cons_of_mem _ hb)
  clear h2 k g
  induction h3 with
  | nil => exact .nil
  | cons q _ ih =>
   obtain ⟨q1, vs, q2, q3⟩:=q
   exact .cons ⟨k' _ (by simp) q1, vs, by rw [g' _ (by simp) q1]; exact q2, q3.mono e⟩ (ih (fun b hb => k' b (List.mem_cons_of_mem _ hb)) fun b hb => g' b (List.mem_cons_of_mem _ hb))
 | ins cl fs => exact InsOk.more h e k g
 | old rows =>
  obtain ⟨a, bs, vs, rfl, h1, h2, h3⟩:=h
  exact ⟨a, bs, vs, rfl, k a (by simp) h1, by rw [g a (by simp) h1]; exact h2, h3.more e (fun b hb => k b (List.mem_cons_of_mem _ hb)) fun b hb => g b (List.mem_cons_of_mem _ hb)⟩
theorem mem_flat {A : List (List Addr)} {k : Nat} {as : List Addr} {a : Addr} (h : A[k]? = some as) (m : a ∈ as) : a ∈ A.flatten :=
 List.mem_flatten.mpr ⟨as, List.mem_of_getElem? h, m⟩
theorem Wd.new (hw : Wd T K F A S H) {p : Addr} (hp : H p = none) (o : HO) (ho : ∀ ps, o ≠ .tbl ps:=by intro ps z; cases z) : Wd T K (upd F p o) A S (upd H p o):=by
 have hF : F p = none:=Evl.fresh_back hw.sub hp
 have eF : Ex F (upd F p o):=Evl.Ex.new hF
 have ne : ∀ a ∈ A.flatten, a ≠ p:=fun a ha z => by
  subst z
  have:=hw.there a ha
  rw [hp] at this
  cases this
 refine ⟨fun a u e => ?_, hw.len, fun k as c h1 h2 => (hw.ok k as c h1 h2).more eF (fun a ha e => ?_) (fun a ha _ => ?_), hw.nod, fun a ha => ?_, ?_, hw.gd, fun a u e => ?_, hw.tb.ext (Evl.Ex.new hp) hw.there (fun q hq => by rw [upd_ne (hw.tb.n1 hq hp)]; exact hw.tb.f q hq) fun b ps z => ?_⟩
 rotate_right
 ·by_cases e : b = p
  ·subst e
   rw [upd_same] at z
   exact ho ps (Option.some.inj z)
  ·rw [upd_ne e] at z
   exact hw.tb.nf b ps z
 ·by_cases z : a = p
  ·subst z
   rw [upd_same] at e ⊢
   exact e
  ·rw [upd_ne z] at e ⊢
   exact hw.sub a u e
 ·rw [upd_ne (ne a (mem_flat h1 ha))]
  exact e
 ·rw [upd_ne (ne a (mem_flat h1 ha))]
 ·rw [upd_ne (ne a ha)]
  exact hw.there a ha
 ·exact hw.gh.trans (Evl.Ex.new hp)
 ·by_cases z : a = p
  ·subst z
   exact .inl (Evl.fresh_back hw.gh hp)
  ·rw [upd_ne z] at e
   exact hw.fg a u e
theorem Wd.freshF (hw : Wd T K F A S H) {p : Addr} (hp : H p = none) : F p = none:=Evl.fresh_back hw.sub hp
theorem Wd.exNew (hw : Wd T K F A S H) {p : Addr} (hp : H p = none) (o : HO) : Ex F (upd F p o):=Evl.Ex.new (hw.freshF hp)
theorem Wd.junk (hw : Wd T K F A S H) {p : Addr} (hp : H p = none) (o : HO) : Wd T K F A S (upd H p o):=by
 have ne : ∀ a ∈ A.flatten, a ≠ p:=fun a ha z => by
  subst z
  have:=hw.there a ha
  rw [hp] at this
  cases this
 refine ⟨hw.sub.trans (Evl.Ex.new hp), hw.len, fun k as c h1 h2 => (hw.ok k as c h1 h2).more (Evl.Ex.refl F) (fun a ha e => e) (fun a ha _ => ?_), hw.nod, fun a ha => ?_, hw.gh.trans (Evl.Ex.new hp), hw.gd, hw.fg, hw.tb.ext (Evl.Ex.new hp) hw.there hw.tb.f hw.tb.nf⟩
 ·rw [upd_ne (ne a (mem_flat h1 ha))]
 ·rw [upd_ne (ne a ha)]
  exact hw.there a ha
theorem Wd.push (hw : Wd T K F A S H) {p : Addr} (hp : H p = none) (o : HO) {c : C} (hc : COk T K F (upd H p o) [p] c) (ho : ∀ ps, o ≠ .tbl ps:=by intro ps z; cases z) : Wd T K F (A ++ [[p]]) (S ++ [c]) (upd H p o):=by
 have w:=hw.junk hp o
 have hn : p ∉ A.flatten:=fun z => by
  have:=hw.there p z
  rw [hp] at this
  cases this
 refine ⟨w.sub, by rw [List.length_append, List.length_append, hw.len]; rfl, fun k as c' h1 h2 => ?_, ?_, fun a ha => ?_, w.gh, fun a ha => ?_, hw.fg, ⟨w.tb.tabs, w.tb.f, w.tb.g, fun q hq m => by
  rw [List.flatten_append, List.flatten_singleton] at m
  rcases List.mem_append.mp m with m | m
  ·exact w.tb.a q hq m
  ·exact hw.tb.n1 hq hp (List.mem_singleton.mp m), w.tb.nf, w.tb.ng, fun b hb ps z => by
  rw [List.flatten_append, List.flatten_singleton] at hb
  rcases List.mem_append.mp hb with m | m
  ·exact w.tb.na b m ps z
  ·rw [List.mem_singleton.mp m, upd_same] at z
   exact ho ps (Option.some.inj z)⟩⟩
 ·by_cases hk : k < A.length
  ·rw [List.getElem?_append_left hk] at h1
   rw [List.getElem?_append_left (by rw [← hw.len]; exact hk)] at h2
   exact w.ok k as c' h1 h2
  ·have hk' : k = A.length:=by
    have:=(List.getElem?_eq_some_iff.mp h1).1
    rw [List.length_append, List.length_singleton] at this
    omega
   subst hk'
   rw [List.getElem?_concat_length] at h1
   rw [hw.len, List.getElem?_concat_length] at h2
   cases Option.some.inj h1
   cases Option.some.inj h2
   exact hc
 ·rw [List.flatten_append, List.flatten_singleton, List.nodup_append]
  refine ⟨hw.nod, by simp, fun a ha b hb z => ?_⟩
  rw [List.mem_singleton] at hb
  subst z
  subst hb
  exact hn ha
 ·rw [List.flatten_append, List.flatten_singleton] at ha
  rcases List.mem_append.mp ha with ha | ha
  ·exact w.there a ha
  ·rw [List.mem_singleton] at ha
   subst ha
   rw [upd_same]
   rfl
 ·rw [List.flatten_append, List.flatten_singleton] at ha
  rcases List.mem_append.mp ha with ha | ha
  ·exact w.gd a ha
  ·rw [List.mem_singleton] at ha
   subst ha
   exact Evl.fresh_back hw.gh hp
theorem nodup_ix_flat : ∀ {A : List (List Addr)} {k j : Nat} {as bs : List Addr} {a : Addr}, A.flatten.Nodup → A[k]? = some as → A[j]? = some bs → a ∈ as → a ∈ bs → k = j
 | [], _, _, _, _, _, _, h, _, _, _ => by simp at h
 | x :: A, 0, 0, _, _, _, _, _, _, _, _ => rfl
 | x :: A, 0, j + 1, as, bs, a, hn, h1, h2, m1, m2 => by
  simp at h1 h2
  subst h1
  rw [List.flatten_cons, List.nodup_append] at hn
  exact absurd rfl (hn.2.2 a m1 a (List.mem_flatten.mpr ⟨bs, List.mem_of_getElem? h2, m2⟩))
 | x :: A, k + 1, 0, as, bs, a, hn, h1, h2, m1, m2 => by
  simp at h1 h2
  subst h2
  rw [List.flatten_cons, List.nodup_append] at hn
  exact absurd rfl (hn.2.2 a m2 a (List.mem_flatten.mpr ⟨as, List.mem_of_getElem? h1, m1⟩))
 | x :: A, k + 1, j + 1, as, bs, a, hn, h1, h2, m1, m2 => by
  simp at h1 h2
  rw [List.flatten_cons, List.nodup_append] at hn
  rw [nodup_ix_flat hn.2.1 h1 h2 m1 m2]
theorem Wd.write (hw : Wd T K F A S H) {k : Nat} {as : List Addr} {a : Addr} {c : C} {o : HO} (hA : A[k]? = some as) (ha : a ∈ as) (hF : F a = none) (hc : COk T K F (upd H a o) as c) {o0 : HO} (hH : H a = some o0) (n1 : ∀ ps, o0 ≠ .tbl ps:=by intro ps z; cases z) (n2 : ∀ φ, o0 ≠ .ext φ:=by intro φ z; cases z) (ho : ∀ ps, o ≠ .tbl ps:=by intro ps z; cases z) : Wd T K F A (S.set k c) (upd H a o):=by
 refine ⟨fun b u e => ?_, by rw [List.length_set]; exact hw.len, fun j bs c' h1 h2 => ?_, hw.nod, fun b hb => ?_, fun b u e => ?_, hw.gd, hw.fg, ⟨tabs_upd hw.tb.tabs hH n1 n2, hw.tb.f, hw.tb.g, hw.tb.a, hw.tb.nf, hw.tb.ng, fun b hb ps z => by
  by_cases e : b = a
  ·subst e
   rw [upd_same] at z
   exact ho ps (Option.some.inj z)
  ·rw [upd_ne e] at z
   exact hw.tb.na b hb ps z⟩⟩
 ·have : b ≠ a:=fun z => by rw [z, hF] at e; cases e
  rw [upd_ne this]
  exact hw.sub b u e
 ·by_cases hj : k = j
  ·subst hj
   rw [hA] at h1
   cases Option.some.inj h1
   rw [List.getElem?_set_self (by
    have q:=(List.getElem?_eq_some_iff.mp h2).1
    rwa [List.length_set] at q)] at h2
   cases Option.some.inj h2
   exact hc
  ·rw [List.getElem?_set_ne hj] at h2
   refine (hw.ok j bs c' h1 h2).more (Evl.Ex.refl F) (fun _ _ e => e) fun b hb _ => ?_
   rw [upd_ne]
   rintro rfl
   exact hj (nodup_ix_flat hw.nod hA h1 ha hb)
 ·by_cases z : b = a
  ·subst z
   rw [upd_same]
   rfl
  ·rw [upd_ne z]
   exact hw.there b hb
 ·have : b ≠ a:=fun z => by rw [z, hw.gd a (mem_flat hA ha)] at e; cases e
  rw [upd_ne this]
  exact hw.gh b u e
theorem Wd.cut (hw : Wd T K F A S H) (n : Nat) : Wd T K F (A.take n) (S.take n) H:=by
 have sub : ∀ a ∈ (A.take n).flatten, a ∈ A.flatten:=fun a ha => by
  obtain ⟨as, h1, h2⟩:=List.mem_flatten.mp ha
  exact List.mem_flatten.mpr ⟨as, List.mem_of_mem_take h1, h2⟩
 refine ⟨hw.sub, by rw [List.length_take, List.length_take, hw.len], fun k as c h1 h2 => ?_, ?_, fun a ha => hw.there a (sub a ha), hw.gh, fun a ha => hw.gd a (sub a ha), hw.fg, ⟨hw.tb.tabs, hw.tb.f, hw.tb.g, fun q hq m => hw.tb.a q hq (sub _ m), hw.tb.nf, hw.tb.ng, fun b hb => hw.tb.na b (sub b hb)⟩⟩
 ·rw [List.getElem?_take] at h1 h2
  split at h1
  ·rename_i hk
   rw [if_pos hk] at h2
   exact hw.ok k as c h1 h2
  ·cases h1
 ·have q:=hw.nod
  rw [← List.take_append_drop n A, List.flatten_append, List.nodup_append] at q
  exact q.1
end
theorem Pre.cut {A A' : List (List Addr)} {n : Nat} (h : Pre A A') (hn : n = A.length) : A'.take n = A:=by
 subst hn
 refine List.ext_getElem? fun i => ?_
 rw [List.getElem?_take]
 split
 ·rename_i hi
  rw [List.getElem?_eq_getElem hi]
  exact h i _ (List.getElem?_eq_getElem hi)
 ·rename_i hi
  rw [List.getElem?_eq_none (by omega)]

def RepX (T : Tb) (K : PySem.W.Frag) (F : Hp) (x : Exn) (cls : Value) (d : Option Addr) : Prop :=
 ∃ ca, T.cls x.cls = some ca ∧ cls = .ref ca ∧ ((x.fs = [] ∧ d = none) ∨ ∃ dd vfs, d = some dd ∧ F dd = some (.xd vfs) ∧ Paired (fun (p : Str × D) (q : Str × V) => p.1 = q.1 ∧ Rep K F p.2 q.2) x.fs vfs)
section
variable {α β α' β' : Type}
def Post (T : Tb) (K : PySem.W.Frag) (rel : Hp → List (List Addr) → α → β → Prop) (F : Hp) (A : List (List Addr)) (r : R α) (Q : β → Hp → Prop) (Wx : XK) : Prop :=
 match r with
 | .ok a S => ∀ F' A' H' v, Ex F F' → Pre A A' → Wd T K F' A' S H' → rel F' A' a v → Q v H'
 | .exc x S => ∀ F' A' H' cls d, Ex F F' → Pre A A' → Wd T K F' A' S H' → RepX T K F' x cls d → Wx cls d H'
 | .bad => False
variable {T : Tb} {K : PySem.W.Frag} {F : Hp} {A : List (List Addr)} {Wx : XK}
theorem Post.shift {rel : Hp → List (List Addr) → α → β → Prop} {F' : Hp} {A' : List (List Addr)} {r : R α} {Q : β → Hp → Prop} (h : Post T K rel F A r Q Wx) (e : Ex F F') (p : Pre A A') : Post T K rel F' A' r Q Wx:=by
 cases r with
 | ok a S => exact fun F2 A2 H2 v e2 p2 => h F2 A2 H2 v (e.trans e2) (p.trans p2)
 | exc x S => exact fun F2 A2 H2 c d e2 p2 => h F2 A2 H2 c d (e.trans e2) (p.trans p2)
 | bad => exact h
theorem Post.bind {rel1 : Hp → List (List Addr) → α → β → Prop} {rel2 : Hp → List (List Addr) → α' → β' → Prop} {r : R α} {k : α → Sto → R α'} {P : β → Hp → Prop} {Q : β' → Hp → Prop} (h : Post T K rel2 F A (r.bind k) Q Wx)
  (hk : ∀ a S' F' A' H' v, Ex F F' → Pre A A' → Wd T K F' A' S' H' → rel1 F' A' a v → Post T K rel2 F' A' (k a S') Q Wx → P v H') : Post T K rel1 F A r P Wx:=by
 cases r with
 | ok a S => exact fun F2 A2 H2 v e2 p2 w2 r2 => hk a S F2 A2 H2 v e2 p2 w2 r2 (Post.shift h e2 p2)
 | exc x S => exact h
 | bad => exact h
end
def R.lift {α : Type} (o : Option α) (S : Sto) : R α:=match o with
 | some a => .ok a S
 | none => .bad
theorem Post.lift {α β : Type} {T : Tb} {K : PySem.W.Frag} {F : Hp} {A : List (List Addr)} {Wx : XK} {rel : Hp → List (List Addr) → α → β → Prop} {o : Option α} {S : Sto} {Q : β → Hp → Prop} (h : Post T K rel F A (R.lift o S) Q Wx) :
  ∃ a, o = some a ∧ ∀ F' A' H' v, Ex F F' → Pre A A' → Wd T K F' A' S H' → rel F' A' a v → Q v H':=by
 cases o with
 | none => exact h.elim
 | some a => exact ⟨a, rfl, h⟩

abbrev FE:=Rho → Sto → R W
abbrev FT:=Rho → Sto → R Bool
abbrev FA:=Rho → Sto → R (List W)
abbrev FS:=Rho → Sto → Out
def relB (_ : Hp) (_ : List (List Addr)) (b c : Bool) : Prop:=b = c
def SemE (T : Tb) (K : PySem.W.Frag) (Wx : WX) (t : TE) (f : FE) : Prop :=
 ∀ G F A S H σ ρ Q, Wd (T.g G) K F A S H → Sl K F A ρ σ → Post (T.g G) K (RepW K) F A (f ρ S) Q (fun c d H' => Wx c d σ H') → t σ H Q
def SemT (T : Tb) (K : PySem.W.Frag) (Wx : WX) (t : TT) (f : FT) : Prop :=
 ∀ G F A S H σ ρ Q, Wd (T.g G) K F A S H → Sl K F A ρ σ → Post (T.g G) K relB F A (f ρ S) Q (fun c d H' => Wx c d σ H') → t σ H Q
def SemA (T : Tb) (K : PySem.W.Frag) (Wx : WX) (t : TA) (f : FA) : Prop :=
 ∀ G F A S H σ ρ Q, Wd (T.g G) K F A S H → Sl K F A ρ σ → Post (T.g G) K (RepWs K) F A (f ρ S) Q (fun c d H' => Wx c d σ H') → t σ H Q
def PostS (T : Tb) (K : PySem.W.Frag) (F : Hp) (A : List (List Addr)) (r : Out) (D : Ends) (Wx : WX) : Prop :=
 match r with
 | .nx ρ S => ∀ F' A' H' σ, Ex F F' → Pre A A' → Wd T K F' A' S H' → Sl K F' A' ρ σ → D.nx σ H'
 | .bk ρ S => ∀ F' A' H' σ, Ex F F' → Pre A A' → Wd T K F' A' S H' → Sl K F' A' ρ σ → D.bk σ H'
 | .ct ρ S => ∀ F' A' H' σ, Ex F F' → Pre A A' → Wd T K F' A' S H' → Sl K F' A' ρ σ → D.ct σ H'
 | .rt w S => ∀ F' A' H' v, Ex F F' → Pre A A' → Wd T K F' A' S H' → RepW K F' A' w v → D.rt v H'
 | .exc x ρ S => ∀ F' A' H' σ cls d, Ex F F' → Pre A A' → Wd T K F' A' S H' → Sl K F' A' ρ σ → RepX T K F' x cls d → Wx cls d σ H'
 | .bad => False
def SemS (T : Tb) (K : PySem.W.Frag) (Wx : WX) (t : TS) (f : FS) : Prop :=
 ∀ G F A S H σ ρ D, Wd (T.g G) K F A S H → Sl K F A ρ σ → PostS (T.g G) K F A (f ρ S) D Wx → t D σ H
theorem PostS.shift {T : Tb} {K : PySem.W.Frag} {F : Hp} {A : List (List Addr)} {Wx : WX} {F' : Hp} {A' : List (List Addr)} {r : Out} {D : Ends} (h : PostS T K F A r D Wx) (e : Ex F F') (p : Pre A A') : PostS T K F' A' r D Wx:=by
 cases r with
 | nx ρ S => exact fun F2 A2 H2 v e2 p2 => h F2 A2 H2 v (e.trans e2) (p.trans p2)
 | bk ρ S => exact fun F2 A2 H2 v e2 p2 => h F2 A2 H2 v (e.trans e2) (p.trans p2)
 | ct ρ S => exact fun F2 A2 H2 v e2 p2 => h F2 A2 H2 v (e.trans e2) (p.trans p2)
 | rt ρ S => exact fun F2 A2 H2 v e2 p2 => h F2 A2 H2 v (e.trans e2) (p.trans p2)
 | exc x ρ S => exact fun F2 A2 H2 σ c d e2 p2 => h F2 A2 H2 σ c d (e.trans e2) (p.trans p2)
 | bad => exact h
def R.then {α : Type} (r : R α) (ρ : Rho) (k : α → Sto → Out) : Out:=match r with
 | .ok a S => k a S
 | .exc x S => .exc x ρ S
 | .bad => .bad
theorem PostS.then {α β : Type} {T : Tb} {K : PySem.W.Frag} {F : Hp} {A : List (List Addr)} {Wx : WX} {rel : Hp → List (List Addr) → α → β → Prop} {r : R α} {ρ : Rho} {σ : L2.St} {k : α → Sto → Out} {D : Ends} {P : β → Hp → Prop} (hs : Sl K F A ρ σ) (h : PostS T K F A (r.then ρ k) D Wx)
  (hk : ∀ a S' F' A' H' v, Ex F F' → Pre A A' → Wd T K F' A' S' H' → rel F' A' a v → PostS T K F' A' (k a S') D Wx → P v H') : Post T K rel F A r P (fun c d H' => Wx c d σ H'):=by
 cases r with
 | ok a S => exact fun F2 A2 H2 v e2 p2 w2 r2 => hk a S F2 A2 H2 v e2 p2 w2 r2 (PostS.shift h e2 p2)
 | exc x S => exact fun F2 A2 H2 c d e2 p2 w2 r2 => h F2 A2 H2 σ c d e2 p2 w2 (hs.mono e2 p2) r2
 | bad => exact h
structure JE (T : Tb) (X : Cx) (Wx : WX) (e : Expr) (f : FE) : Prop where
 ex : ∃ t, PE X e t ∧ SemE T X.K Wx t f
structure JT (T : Tb) (X : Cx) (Wx : WX) (e : Expr) (f : FT) : Prop where
 ex : ∃ t, PT X e t ∧ SemT T X.K Wx t f
structure JW (T : Tb) (X : Cx) (Wx : WX) (e : Expr) (f : FT) : Prop where
 ex : ∃ t, PW X e t ∧ SemT T X.K Wx t f
structure JA (T : Tb) (X : Cx) (Wx : WX) (es : List Expr) (f : FA) : Prop where
 ex : ∃ t, PA X es t ∧ SemA T X.K Wx t f
structure JS (T : Tb) (X : Cx) (Wx : WX) (st : Stmt) (f : FS) : Prop where
 ex : ∃ t, PS X st t ∧ SemS T X.K Wx t f
structure JB (T : Tb) (X : Cx) (Wx : WX) (sts : List Stmt) (f : FS) : Prop where
 ex : ∃ t, PSs X sts t ∧ SemS T X.K Wx t f
end Vz
namespace Vz
open PySem PySem.Spec PyProof.Rows L2
def lim : Nat:=1000000
theorem lim_le {n : Nat} (h : n ≤ lim) : n ≤ sizeLine:=Nat.le_trans h (by decide)
theorem lim_lt {n : Nat} (h : n < lim) : n < sizeLine:=Nat.lt_of_lt_of_le h (by decide)
def ifO {α : Type} (b : Bool) (o : Option α) : Option α:=match b with
 | true => o
 | false => none
theorem ifO_some {α : Type} {b : Bool} {o : Option α} {a : α} (h : ifO b o = some a) : b = true ∧ o = some a:=by
 cases b with
 | true => exact ⟨rfl, h⟩
 | false => cases h
section
variable {T : Tb} {X : Cx} {Wx : WX}

def fVar (i : Nat) : FE:=fun ρ S => match ρ[i]? with
 | some (some w) => .ok w S
 | _ => .bad
def fC (d : D) : FE:=fun _ S => .ok (.dat d) S
theorem je_var (i : Nat) {x : Str} {pos : Pos} (hN : X.N[i]? = some x:=by rfl) (hv : Vis X.env.scope x:=by first | exact Or.inl rfl | exact Or.inr (Or.inl rfl) | exact Or.inr (Or.inr rfl)) (hd : (x == ("__debug__" : Str)) = false:=by decide)
  (hcd : (x == ("__classdict__" : Str)) = false:=by decide) : JE T X Wx (.Name x pos) (fVar i):=by
 refine ⟨_, pe_var (i:=i) hN hv hd hcd, fun G F A S H σ ρ Q hw hs hp => ?_⟩
 unfold fVar at hp
 split at hp
 ·rename_i w e
  obtain ⟨v, h1, h2⟩:=hs.at_ i w e
  exact ⟨v, h1, hp F A H v (Evl.Ex.refl F) (Pre.refl A) hw h2⟩
 ·exact hp.elim
theorem je_const {e : Expr} {d : D} {v : V} (h : PE X e (tC v)) (r : flatD d = some v) : JE T X Wx e (fC d) :=
 ⟨_, h, fun G F A S H σ ρ Q hw hs hp => hp F A H v (Evl.Ex.refl F) (Pre.refl A) hw (Rep.of_flat r)⟩
theorem je_int {i j pos} : JE T X Wx (.Constant (.int i) j pos) (fC (.int i)):=je_const pe_int rfl
theorem je_bl {i j pos} : JE T X Wx (.Constant (.bool i) j pos) (fC (.bool i)):=je_const pe_bl rfl
theorem je_str {i j pos} : JE T X Wx (.Constant (.str i) j pos) (fC (.str i)):=je_const pe_str rfl
theorem je_non {j pos} : JE T X Wx (.Constant .none j pos) (fC .none):=je_const pe_non rfl
theorem je_glob {x : Str} {d : D} {v : V} {u : Value} {pos : Pos} (hg : Gl X x) (hm : X.mg x = some u) (r : RelV v u) (h : flatD d = some v) (hd : (x == ("__debug__" : Str)) = false:=by decide) : JE T X Wx (.Name x pos) (fC d) :=
 je_const (pe_glob hg hm r hd) h

theorem fin_new {K : PySem.W.Frag} {F H : Hp} {A : List (List Addr)} {S : Sto} {z : D} {Q : VK} {p : Addr} {o : HO} (q : ∀ F' H' v, Ex F F' → Wd T K F' A S H' → Rep K F' z v → Q v H') (hw : Wd T K F A S H) (hp : H p = none)
  (hr : ∀ F', Ex F F' → F' p = some o → Rep K F' z (.ref p)) (ho : ∀ ps, o ≠ .tbl ps:=by intro ps z; cases z) : Q (.ref p) (upd H p o):=q _ _ _ (hw.exNew hp o) (hw.new hp o ho) (hr _ (hw.exNew hp o) upd_same)
def OpL (T : Tb) (K : PySem.W.Frag) (r : R2) (g : D → D → Option D) : Prop :=
 ∀ (G F : Hp) (A : List (List Addr)) (S : Sto) (H : Hp) (x y : V) (dx dy z : D) (Q : VK), Wd (T.g G) K F A S H → RepU K F H dx x → RepU K F H dy y → g dx dy = some z →
  (∀ F' H' v, Ex F F' → Wd (T.g G) K F' A S H' → Rep K F' z v → Q v H') → r x y H Q
def orD (g g' : D → D → Option D) : D → D → Option D:=fun x y => match g x y with
 | some z => some z
 | none => g' x y
theorem OpL.or {K : PySem.W.Frag} {r r' : R2} {g g' : D → D → Option D} (h : OpL T K r g) (h' : OpL T K r' g') : OpL T K (fun x y H Q => r x y H Q ∨ r' x y H Q) (orD g g'):=by
 intro G F A S H x y dx dy z Q hw rx ry e q
 unfold orD at e
 split at e
 ·rename_i z' e'
  cases e
  exact .inl (h G F A S H x y dx dy z Q hw rx ry e' q)
 ·exact .inr (h' G F A S H x y dx dy z Q hw rx ry e q)
def rd2 (S : Sto) (x y : W) (g : D → D → Option D) : Option D:=(rd S x).bind fun dx => (rd S y).bind fun dy => g dx dy
def fBin (g : D → D → Option D) (a b : FE) : FE:=fun ρ S => (a ρ S).bind fun x S1 => (b ρ S1).bind fun y S2 => R.lift ((rd2 S2 x y g).map W.dat) S2
theorem rd2_some {S : Sto} {x y : W} {g : D → D → Option D} {w : W} (h : (rd2 S x y g).map W.dat = some w) : ∃ dx dy z, rd S x = some dx ∧ rd S y = some dy ∧ g dx dy = some z ∧ w = .dat z:=by
 unfold rd2 at h
 cases h1 : rd S x with
 | none => rw [h1] at h; cases h
 | some dx =>
  cases h2 : rd S y with
  | none => rw [h1, h2] at h; cases h
  | some dy =>
   cases h3 : g dx dy with
   | none =>
    rw [h1, h2] at h
    simp only [Option.bind_some, h3] at h
    cases h
   | some z =>
    rw [h1, h2] at h
    simp only [Option.bind_some, h3] at h
    cases h
    exact ⟨dx, dy, z, rfl, rfl, h3, rfl⟩
theorem semE_op {K : PySem.W.Frag} {ta tb : TE} {fa fb : FE} {r : R2} {g : D → D → Option D} (ha : SemE T K Wx ta fa) (hb : SemE T K Wx tb fb) (hr : OpL T K r g) : SemE T K Wx (tOp r ta tb) (fBin g fa fb):=by
 intro G F A S H σ ρ Q hw hs hp
 refine ha G F A S H σ ρ _ hw hs (hp.bind fun x S1 F1 A1 H1 v1 e1 p1 w1 r1 hp1 => ?_)
 refine hb G F1 A1 S1 H1 σ ρ _ w1 (hs.mono e1 p1) (hp1.bind fun y S2 F2 A2 H2 v2 e2 p2 w2 r2 hp2 => ?_)
 obtain ⟨w, hw', q⟩:=hp2.lift
 obtain ⟨dx, dy, z, h1, h2, h3, rfl⟩:=rd2_some hw'
 exact hr G F2 A2 S2 H2 v1 v2 dx dy z Q w2 (rd_rep w2 (r1.mono e2 p2) h1) (rd_rep w2 r2 h2) h3 fun F3 H3 v3 e3 w3 r3 => q F3 A2 H3 v3 e3 (Pre.refl A2) w3 r3
variable {a b c : Expr} {fa fb fc : FE} {pos : Pos}
theorem je_op {op : Operator} {r : R2} {g : D → D → Option D} (ho : OpR X (binaryOp op) r) (hr : OpL T X.K r g) (ha : JE T X Wx a fa) (hb : JE T X Wx b fb) : JE T X Wx (.BinOp a op b pos) (fBin g fa fb):=by
 obtain ⟨ta, h1, s1⟩:=ha
 obtain ⟨tb, h2, s2⟩:=hb
 exact ⟨_, pe_op ho h1 h2, semE_op s1 s2 hr⟩
theorem je_cmp {op : CmpOp} {r : R2} {g : D → D → Option D} (ho : OpR X (compareOp op) r) (hr : OpL T X.K r g) (ha : JE T X Wx a fa) (hb : JE T X Wx b fb) (hm : behindInMarks op b = false) : JE T X Wx (.Compare a [op] [b] pos) (fBin g fa fb):=by
 obtain ⟨ta, h1, s1⟩:=ha
 obtain ⟨tb, h2, s2⟩:=hb
 exact ⟨_, pe_cmpR ho h1 h2 hm, semE_op s1 s2 hr⟩
def asB : W → Option Bool
 | .dat (.bool b) => some b
 | _ => none
def fB (f : FE) : FT:=fun ρ S => (f ρ S).bind fun w S1 => R.lift (asB w) S1
theorem asB_some {w : W} {b : Bool} (h : asB w = some b) : w = .dat (.bool b):=by
 unfold asB at h
 split at h
 ·cases h; rfl
 ·cases h
theorem semT_B {K : PySem.W.Frag} {t : TE} {f : FE} (h : SemE T K Wx t f) : SemT T K Wx (fun σ H Q => t σ H fun x H' => ∃ k, x = .bl k ∧ Q k H') (fB f):=by
 intro G F A S H σ ρ Q hw hs hp
 refine h G F A S H σ ρ _ hw hs (hp.bind fun x S1 F1 A1 H1 v1 e1 p1 w1 r1 hp1 => ?_)
 obtain ⟨b, e, q⟩:=hp1.lift
 cases asB_some e
 cases r1
 exact ⟨b, rfl, q F1 A1 H1 b (Evl.Ex.refl _) (Pre.refl _) w1 rfl⟩
theorem jt_cmp {op : CmpOp} {r : R2} {g : D → D → Option D} (ho : OpR X (compareOp op) r) (hr : OpL T X.K r g) (ha : JE T X Wx a fa) (hb : JE T X Wx b fb) (hm : behindInMarks op b = false) : JT T X Wx (.Compare a [op] [b] pos) (fB (fBin g fa fb)):=by
 obtain ⟨ta, h1, s1⟩:=ha
 obtain ⟨tb, h2, s2⟩:=hb
 exact ⟨_, pt_cmpR ho h1 h2 hm, semT_B (semE_op s1 s2 hr)⟩
theorem jt_val {e : Expr} {f : FE} (h : JE T X Wx e f) (he : ∀ whole, isTrue e X.env whole = (do let v ← whole; standAt e.pos; holding [v] (truthy v)):=by intro _; rfl) : JT T X Wx e (fB f):=by
 obtain ⟨t, h1, s1⟩:=h
 exact ⟨_, pt_val h1 he, semT_B s1⟩

def gI (C : Int → Int → Bool) (f : Int → Int → D) : D → D → Option D
 | .int i, .int j => ifO (C i j) (some (f i j))
 | _, _ => none
theorem opL_I {K : PySem.W.Frag} {Cp : Int → Int → Prop} {f : Int → Int → V} {C : Int → Int → Bool} {g : Int → Int → D} (hC : ∀ i j, C i j = true → Cp i j) (hf : ∀ i j, flatD (g i j) = some (f i j)) : OpL T K (rI Cp f) (gI C g):=by
 intro G F A S H x y dx dy z Q hw rx ry e q
 unfold gI at e
 split at e
 ·rename_i i j
  obtain ⟨c, e⟩:=ifO_some e
  cases e
  cases rx with
  | flat h1 =>
   cases ry with
   | flat h2 =>
    cases h1
    cases h2
    exact ⟨i, j, rfl, rfl, hC i j c, q F H _ (Evl.Ex.refl F) hw (.of_flat (hf i j))⟩
 ·cases e
theorem opL_I0 {K : PySem.W.Frag} {f : Int → Int → V} {g : Int → Int → D} (hf : ∀ i j, flatD (g i j) = some (f i j)) : OpL T K (rI0 f) (gI (fun _ _ => true) g):=by
 intro G F A S H x y dx dy z Q hw rx ry e q
 obtain ⟨i, j, h1, h2, _, h3⟩:=(opL_I (T:=T) (K:=K) (Cp:=fun _ _ => True) (C:=fun _ _ => true) (fun _ _ _ => trivial) hf) G F A S H x y dx dy z Q hw rx ry e q
 exact ⟨i, j, h1, h2, h3⟩
def addI : D → D → Option D:=gI (fun _ _ => true) fun i j => .int (i + j)
def subI : D → D → Option D:=gI (fun _ _ => true) fun i j => .int (i - j)
def mulI : D → D → Option D:=gI (fun i j => decide (i.natAbs < 2 ^ 64) || decide (j.natAbs < 2 ^ 64)) fun i j => .int (i * j)
def mulW : D → D → Option D:=gI (fun i j => decide (i.natAbs.log2 + j.natAbs.log2 < 1000000)) fun i j => .int (i * j)
def divI : D → D → Option D:=gI (fun _ j => decide (0 < j) && decide (j.natAbs.log2 < 9000)) fun i j => .int (i / j)
def modI : D → D → Option D:=gI (fun _ j => decide (0 < j)) fun i j => .int (i % j)
def powI : D → D → Option D:=gI (fun i j => decide (0 ≤ j) && (decide (j ≤ 1000) && decide (i.natAbs < 2 ^ 64))) fun i j => .int (i ^ j.toNat)
def ltI : D → D → Option D:=gI (fun _ _ => true) fun i j => .bool (decide (i < j))
def leI : D → D → Option D:=gI (fun _ _ => true) fun i j => .bool (decide (i ≤ j))
def gtI : D → D → Option D:=gI (fun _ _ => true) fun i j => .bool (decide (j < i))
def geI : D → D → Option D:=gI (fun _ _ => true) fun i j => .bool (decide (j ≤ i))
theorem l_addI {K : PySem.W.Frag} : OpL T K (rI0 fun i j => .int (i + j)) addI:=opL_I0 fun _ _ => rfl
theorem l_subI {K : PySem.W.Frag} : OpL T K (rI0 fun i j => .int (i - j)) subI:=opL_I0 fun _ _ => rfl
theorem l_mulI {K : PySem.W.Frag} : OpL T K (rI CMul fun i j => .int (i * j)) mulI:=opL_I (fun i j h => by
 rcases Bool.or_eq_true_iff.mp h with h | h
 ·have h:=of_decide_eq_true h
  exact .inl ⟨by omega, by omega⟩
 ·have h:=of_decide_eq_true h
  exact .inr ⟨by omega, by omega⟩) fun _ _ => rfl
theorem l_mulW {K : PySem.W.Frag} : OpL T K (rI CMulW fun i j => .int (i * j)) mulW:=opL_I (fun i j h => (of_decide_eq_true h : i.natAbs.log2 + j.natAbs.log2 < 1000000)) fun _ _ => rfl
theorem l_divI {K : PySem.W.Frag} : OpL T K (rI CDivW fun i j => .int (i / j)) divI:=opL_I (fun i j h => by
 obtain ⟨h1, h2⟩:=Bool.and_eq_true_iff.mp h
 exact ⟨of_decide_eq_true h1, of_decide_eq_true h2⟩) fun _ _ => rfl
theorem l_modI {K : PySem.W.Frag} : OpL T K (rI (fun _ j => 0 < j) fun i j => .int (i % j)) modI:=opL_I (fun i j h => of_decide_eq_true h) fun _ _ => rfl
theorem l_powI {K : PySem.W.Frag} : OpL T K (rI CPow fun i j => .int (i ^ j.toNat)) powI:=opL_I (fun i j h => by
 obtain ⟨h1, h2⟩:=Bool.and_eq_true_iff.mp h
 obtain ⟨h3, h4⟩:=Bool.and_eq_true_iff.mp h2
 exact ⟨of_decide_eq_true h1, by have:=of_decide_eq_true h3; omega, of_decide_eq_true h4⟩) fun _ _ => rfl
theorem l_ltI {K : PySem.W.Frag} : OpL T K (rI0 fun i j => .bl (decide (i < j))) ltI:=opL_I0 fun _ _ => rfl
theorem l_leI {K : PySem.W.Frag} : OpL T K (rI0 fun i j => .bl (decide (i ≤ j))) leI:=opL_I0 fun _ _ => rfl
theorem l_gtI {K : PySem.W.Frag} : OpL T K (rI0 fun i j => .bl (decide (j < i))) gtI:=opL_I0 fun _ _ => rfl
theorem l_geI {K : PySem.W.Frag} : OpL T K (rI0 fun i j => .bl (decide (j ≤ i))) geI:=opL_I0 fun _ _ => rfl
def addS : D → D → Option D
 | .str x, .str y => ifO (decide (x.length + y.length ≤ lim)) (some (.str (x ++ y)))
 | _, _ => none
def addT : D → D → Option D
 | .tup f x, .tup g y => ifO (decide (x.length + y.length ≤ lim)) (some (match x with
  | [] => .tup g y
  | a :: r => match y with
   | [] => .tup f (a :: r)
   | b :: q => .tup .nod (a :: r ++ b :: q)))
 | _, _ => none
def addL : D → D → Option D
 | .list x, .list y => ifO (decide (x.length + y.length ≤ lim)) (some (.list (x ++ y)))
 | _, _ => none
theorem l_addS {K : PySem.W.Frag} : OpL T K (fun x y H Q => ∃ i j, x = .str i ∧ y = .str j ∧ i.length + j.length ≤ sizeLine ∧ Q (.str (i ++ j)) H) addS:=by
 intro G F A S H x y dx dy z Q hw rx ry e q
 unfold addS at e
 split at e
 ·rename_i i j
  obtain ⟨c, e⟩:=ifO_some e
  cases e
  cases rx with
  | flat h1 =>
   cases ry with
   | flat h2 =>
    cases h1
    cases h2
    exact ⟨i, j, rfl, rfl, lim_le (of_decide_eq_true c), q F H _ (Evl.Ex.refl F) hw (.str _)⟩
 ·cases e
theorem Reps.nil_iff {K : PySem.W.Frag} {F : Hp} {ds : List D} {vs : List V} (r : Reps K F ds vs) : vs = [] ↔ ds = []:=by
 cases r with
 | nil => simp
 | cons _ _ => simp
theorem tup_new {pins : List (Addr × Obj)} {σ : L2.St} {H : Hp} {s : Shared} {its : List Value} {vs : List V} {t' : Nat} (I : Inv X pins σ H s) (hv : Vals vs its) (hz : vs.length ≤ sizeLine) :
  Inv X pins σ (upd H s.heap.objs.size (.frz { cls:=.type "tuple", data:=.seq its.toArray } (.tup vs))) { s with heap:=s.heap.push { cls:=.type "tuple", data:=.seq its.toArray }, toks:=t' } :=
 I.laid (fun _ _ q => Heap.get?_push_of_some _ q) (Nat.le_refl _) ⟨Heap.get?_push_size _ rfl, hz, its, hv, ⟨_, Heap.get?_push_size _ rfl, rfl, 0, rfl⟩⟩
def NewT (H : Hp) (vs : List V) (Q : VK) : Prop:=∀ p o, H p = none → o.dict = none → Q (.ref p) (upd H p (.frz o (.tup vs)))
def rCatF (K : PySem.W.Frag) : R2:=fun x y H Q => ∃ a b xs ys, x = .ref a ∧ y = .ref b ∧ SqT K H a xs ∧ SqT K H b ys ∧ xs.length + ys.length ≤ sizeLine ∧
 (xs = [] → Q (.ref b) H) ∧ (xs ≠ [] → ys = [] → Q (.ref a) H) ∧ (xs ≠ [] → ys ≠ [] → NewT H (xs ++ ys) Q)
theorem l_addL {K : PySem.W.Frag} : OpL T K rCat addL:=by
 intro G F A S H x y dx dy z Q hw rx ry e q
 unfold addL at e
 split at e
 ·rename_i i j
  obtain ⟨c, e⟩:=ifO_some e
  cases e
  have c':=lim_le (of_decide_eq_true c)
  cases rx with
  | flat h1 => cases h1
  | lst h1 r1 =>
   cases ry with
   | flat h2 => cases h2
   | lst h2 r2 =>
    refine ⟨_, _, _, _, rfl, rfl, h1, h2, by rw [← r1.length, ← r2.length]; exact c', fun p hp => ?_⟩
    exact fin_new q hw hp fun F' e h => .lst h ((r1.append r2).mono e)
 ·cases e
theorem op_catF {X : Cx} : OpR X (binaryOp .Add) (rCatF X.K):=by
 intro pins s σ H x y v u Q I rx ry h
 obtain ⟨a, b, xs, ys, rfl, rfl, ha, hb, hz, q0, q1, q2⟩:=h
 cases rx
 cases ry
 obtain ⟨its, r1, p1, _⟩:=I.tuple ha
 obtain ⟨its2, r2, p2, _⟩:=I.tuple hb
 by_cases hx : xs = []
 ·subst hx
  cases r1
  exact cat_tup0 p1 p2 ⟨.ref b, H, I, rfl, q0 rfl⟩
 ·refine HT.cat_tup p1 p2 (fun z => hx (r1.nil_iff.mp z)) (fun z => ⟨.ref a, H, I, rfl, q1 hx (r2.nil_iff.mp z)⟩) (fun z => ?_) (by rw [← r1.length, ← r2.length]; exact hz)
  exact ⟨.ref s.heap.objs.size, _, tup_new (t':=s.toks) I (r1.append r2) (by rw [List.length_append]; exact hz), rfl, q2 hx (fun w => z (r2.nil_iff.mpr w)) _ _ (I.hok.fresh (Nat.le_refl _)) rfl⟩
theorem fin_newT {K : PySem.W.Frag} {F H : Hp} {A : List (List Addr)} {S : Sto} {xs : List D} {vs : List V} {Q : VK} (q : ∀ F' H' v, Ex F F' → Wd T K F' A S H' → Rep K F' (.tup .nod xs) v → Q v H') (hw : Wd T K F A S H) (r : Reps K F xs vs) : NewT H vs Q:=fun p o hp ho =>
 fin_new q hw hp fun F' e h => .tup (.inl ⟨o, h, ho⟩) (r.mono e)
theorem l_addT {K : PySem.W.Frag} : OpL T K (rCatF K) addT:=by
 intro G F A S H x y dx dy z Q hw rx ry e q
 unfold addT at e
 split at e
 ·rename_i f i g j
  obtain ⟨c, e⟩:=ifO_some e
  have c':=lim_le (of_decide_eq_true c)
  cases rx with
  | flat h1 => cases h1
  | tup f1 h1 r1 =>
   cases ry with
   | flat h2 => cases h2
   | tup f2 h2 r2 =>
    refine ⟨_, _, _, _, rfl, rfl, h1, h2, by rw [← r1.length, ← r2.length]; exact c', fun n1 => ?_, fun n1 n2 => ?_, fun n1 n2 => ?_⟩
    ·cases r1.nil_iff.mp n1
     cases e
     exact q F H _ (Evl.Ex.refl _) hw (.tup f2 r2)
    ·cases r2.nil_iff.mp n2
     cases i with
     | nil => exact absurd (r1.nil_iff.mpr rfl) n1
     | cons a r =>
      cases e
      exact q F H _ (Evl.Ex.refl _) hw (.tup f1 r1)
    ·cases i with
     | nil => exact absurd (r1.nil_iff.mpr rfl) n1
     | cons a r =>
      cases j with
      | nil => exact absurd (r2.nil_iff.mpr rfl) n2
      | cons b s =>
       cases e
       exact fin_newT q hw (r1.append r2)
 ·cases e
def addD : D → D → Option D:=orD addI (orD addL (orD addT addS))
theorem je_add (ha : JE T X Wx a fa) (hb : JE T X Wx b fb) : JE T X Wx (.BinOp a .Add b pos) (fBin addD fa fb) :=
 je_op (OpR.or op_add (OpR.or op_cat (OpR.or op_catF op_add_str))) (l_addI.or (l_addL.or (l_addT.or l_addS))) ha hb
theorem je_sub (ha : JE T X Wx a fa) (hb : JE T X Wx b fb) : JE T X Wx (.BinOp a .Sub b pos) (fBin subI fa fb):=je_op op_sub l_subI ha hb
def repL : D → D → Option D
 | .list x, .int k => ifO (decide (k.natAbs ≤ 1000000) && decide (x.length * k.toNat ≤ lim)) (some (.list (List.replicate k.toNat x).flatten))
 | _, _ => none
theorem Reps.rep {K : PySem.W.Frag} {F : Hp} {ds : List D} {vs : List V} (r : Reps K F ds vs) : ∀ k : Nat, Reps K F (List.replicate k ds).flatten (List.replicate k vs).flatten
 | 0 => .nil
 | k + 1 => by
  rw [List.replicate_succ, List.replicate_succ, List.flatten_cons, List.flatten_cons]
  exact r.append (Reps.rep r k)
theorem l_repL {K : PySem.W.Frag} : OpL T K rRep repL:=by
 intro G F A S H x y dx dy z Q hw rx ry e q
 unfold repL at e
 split at e
 ·rename_i i j
  obtain ⟨c, e⟩:=ifO_some e
  cases e
  obtain ⟨c1, c3⟩:=Bool.and_eq_true_iff.mp c
  have c1:=of_decide_eq_true c1
  cases rx with
  | flat h1 => cases h1
  | lst h1 r1 =>
   cases ry with
   | flat h2 =>
    cases h2
    refine ⟨_, _, _, rfl, rfl, h1, by omega, by omega, by rw [← r1.length]; exact lim_le (of_decide_eq_true c3), fun p hp => ?_⟩
    exact fin_new q hw hp fun F' e h => .lst h ((r1.rep j.toNat).mono e)
 ·cases e
def repT : D → D → Option D
 | .tup _ x, .int k => ifO ((decide (2 ≤ k) && decide (k ≤ 1000)) && (decide (x.length ≤ 1000) && !x.isEmpty)) (some (.tup .key (List.replicate k.toNat x).flatten))
 | _, _ => none
theorem l_repT {K : PySem.W.Frag} : OpL T K (rRepT K) repT:=by
 intro G F A S H x y dx dy z Q hw rx ry e q
 unfold repT at e
 split at e
 ·rename_i f i j
  obtain ⟨c, e⟩:=ifO_some e
  cases e
  obtain ⟨c1, c⟩:=Bool.and_eq_true_iff.mp c
  obtain ⟨c2, c3⟩:=Bool.and_eq_true_iff.mp c
  obtain ⟨c1, c4⟩:=Bool.and_eq_true_iff.mp c1
  have c1:=of_decide_eq_true c1
  have c2:=of_decide_eq_true c2
  have c4:=of_decide_eq_true c4
  cases rx with
  | flat h1 => cases h1
  | tup f1 h1 r1 =>
   cases ry with
   | flat h2 =>
    cases h2
    refine ⟨_, _, _, rfl, rfl, h1, fun n1 => ?_, by omega, by omega, by rw [← r1.length]; exact c2, fun p hp => ?_⟩
    ·cases r1.nil_iff.mp n1
     cases c3
    ·exact fin_new q hw hp fun F' e h => .tup (f:=.key) h ((r1.rep j.toNat).mono e)
 ·cases e
theorem tuple_mul1 (l : Addr) (items : Array Value) (n : Nat) (dd : Option Addr) (sl : Array (Option Value)) (u : Tok) :
  Meets (Builtin.«tuple.__mul__» ⟨[.ref l, .int 1 u], []⟩) (fun _ R s => s.heap.get? l = some ⟨.type "tuple", dd, .seq items n, sl⟩ ∧ R (.ok (.ret (Value.ref l))) s) :=
 .of_wp fun prog w A R s h => by
  obtain ⟨hp, g, d, tk, os⟩:=s
  obtain ⟨hl, h⟩:=h
  have f1:=AutoSeq1.idx_int
  wp_walk using wpAny_loadPart' hl
  exact ⟨_, rfl, h⟩
theorem tuple_mul0 (l : Addr) (items : Array Value) (n : Nat) (dd : Option Addr) (sl : Array (Option Value)) (u : Tok) :
  Meets (Builtin.«tuple.__mul__» ⟨[.ref l, .int 0 u], []⟩) (fun _ R s => s.heap.get? l = some ⟨.type "tuple", dd, .seq items n, sl⟩ ∧ items.isEmpty = false ∧ R (.ok (.ret (Value.ref s.heap.objs.size))) { s with heap:=s.heap.push ⟨.type "tuple", none, .seq #[] 0, #[]⟩ }) :=
 .of_wp fun prog w A R s h => by
  obtain ⟨hp, g, d, tk, os⟩:=s
  obtain ⟨hl, h0, h⟩:=h
  have f1:=AutoSeq1.idx_int
  wp_walk using wpAny_loadPart' hl
  exact ⟨_, rfl, h⟩
def rRep01 (K : PySem.W.Frag) : R2:=fun x y H Q => ∃ l xs, x = .ref l ∧ SqT K H l xs ∧ ((y = .int 1 ∧ Q (.ref l) H) ∨ (y = .int 0 ∧ xs ≠ [] ∧ NewT H [] Q))
theorem op_rep01 {X : Cx} : OpR X (binaryOp .Mult) (rRep01 X.K):=by
 intro pins s σ H x y v u Q I rx ry h
 obtain ⟨l, xs, rfl, hT, h⟩:=h
 cases rx
 obtain ⟨its, r, ⟨⟨cls, dd, data, sl⟩, ho, hc, n, hd⟩, hs⟩:=I.tuple hT
 simp only at hc hd
 subst hc hd
 rcases h with ⟨rfl, q⟩ | ⟨rfl, hne, q⟩
 ·obtain ⟨t, rfl⟩:=ry
  refine wpAny_binaryOp_repeat_ref (T:="tuple") (U:="int") (by decide) ⟨_, ho, rfl⟩ (fun s' => typeIs_int s' 1 t) noFill_tuple_mul F.fills_int_mul F.slot_int_rmul repeat_tuple F.slot_int_index.lookup ?_
  exact call_meets F.slot_int_rmul (typeIs_int s 1 t) F.entry_int_rmul (F.args_int_rmul_2 _ _) (int_rmul_tuple 1 t l its.toArray n dd sl) ⟨ho, rfl, ⟨_, ho, rfl⟩, call_meets F.slot_tuple_mul ⟨_, ho, rfl⟩ F.entry_tuple_mul (F.args_tuple_mul_2 _ _) (tuple_mul1 l its.toArray n dd sl t) ⟨ho, ⟨.ref l, H, I, rfl, q⟩⟩⟩
 ·obtain ⟨t, rfl⟩:=ry
  have hi : its.toArray.isEmpty = false:=by
   cases its with
   | nil => cases r; exact absurd rfl hne
   | cons a b => rfl
  refine wpAny_binaryOp_repeat_ref (T:="tuple") (U:="int") (by decide) ⟨_, ho, rfl⟩ (fun s' => typeIs_int s' 0 t) noFill_tuple_mul F.fills_int_mul F.slot_int_rmul repeat_tuple F.slot_int_index.lookup ?_
  exact call_meets F.slot_int_rmul (typeIs_int s 0 t) F.entry_int_rmul (F.args_int_rmul_2 _ _) (int_rmul_tuple 0 t l its.toArray n dd sl) ⟨ho, rfl, ⟨_, ho, rfl⟩, call_meets F.slot_tuple_mul ⟨_, ho, rfl⟩ F.entry_tuple_mul (F.args_tuple_mul_2 _ _) (tuple_mul0 l its.toArray n dd sl t) ⟨ho, hi,
   ⟨.ref s.heap.objs.size, _, tup_new (t':=s.toks) I .nil (Nat.zero_le _), rfl, q _ _ (I.hok.fresh (Nat.le_refl _)) rfl⟩⟩⟩
def rep01 : D → D → Option D
 | .tup f x, .int 1 => some (.tup f x)
 | .tup _ (_ :: _), .int 0 => some (.tup .nod [])
 | _, _ => none
theorem l_rep01 {K : PySem.W.Frag} : OpL T K (rRep01 K) rep01:=by
 intro G F A S H x y dx dy z Q hw rx ry e q
 unfold rep01 at e
 split at e
 ·cases e
  cases rx with
  | flat h1 => cases h1
  | tup f1 h1 r1 => exact ⟨_, _, rfl, h1, .inl ⟨by cases ry with | flat h2 => exact (Option.some.inj h2).symm, q F H _ (Evl.Ex.refl _) hw (.tup f1 r1)⟩⟩
 ·cases e
  cases rx with
  | flat h1 => cases h1
  | tup f1 h1 r1 => exact ⟨_, _, rfl, h1, .inr ⟨by cases ry with | flat h2 => exact (Option.some.inj h2).symm, fun z => (nomatch r1.nil_iff.mp z), fin_newT q hw .nil⟩⟩
 ·cases e
def mulD : D → D → Option D:=orD mulI (orD mulW (orD repL (orD repT rep01)))
theorem je_mul (ha : JE T X Wx a fa) (hb : JE T X Wx b fb) : JE T X Wx (.BinOp a .Mult b pos) (fBin mulD fa fb):=je_op (OpR.or op_mul (OpR.or op_mulW (OpR.or op_rep (OpR.or op_repT op_rep01)))) (l_mulI.or (l_mulW.or (l_repL.or (l_repT.or l_rep01)))) ha hb
theorem je_div (ha : JE T X Wx a fa) (hb : JE T X Wx b fb) : JE T X Wx (.BinOp a .FloorDiv b pos) (fBin divI fa fb):=je_op op_fdivW l_divI ha hb
theorem je_mod (ha : JE T X Wx a fa) (hb : JE T X Wx b fb) : JE T X Wx (.BinOp a .Mod b pos) (fBin modI fa fb):=je_op op_mod l_modI ha hb
theorem je_pow (ha : JE T X Wx a fa) (hb : JE T X Wx b fb) : JE T X Wx (.BinOp a .Pow b pos) (fBin powI fa fb):=je_op op_pow l_powI ha hb

theorem RepU.flat_of {K : PySem.W.Frag} {F H : Hp} {d : D} {v : V} {x : V} (r : RepU K F H d v) (e : flatD d = some x) : v = x:=by
 cases r with
 | flat h => rw [e] at h; exact (Option.some.inj h).symm
 | lst _ _ => cases e
 | tup _ _ _ => cases e
 | dT _ _ => cases e
 | dK _ _ => cases e
mutual
def D.py : D → PyData
 | .none => .none
 | .bool b => .bool b
 | .int i => .int i
 | .str x => .str x
 | .list xs => .list (pyAll xs)
 | .tup _ xs => .tuple (pyAll xs)
 | .dT _ => .dict []
 | .dK _ => .dict []
def pyAll : List D → List PyData
 | [] => []
 | x :: xs => x.py :: pyAll xs
end
theorem dp_flat {K : PySem.W.Frag} {H : Hp} {d : D} {v : V} (e : flatD d = some v) : Dp K H v d.py:=by
 cases d with
 | none => cases e; exact .non
 | bool b => cases e; exact .bl b
 | int i => cases e; exact .int i
 | str x => cases e; exact .str x
 | _ => cases e
mutual
theorem Rep.dp {K : PySem.W.Frag} {F H : Hp} (e : Ex F H) : ∀ {d : D} {v : V}, Rep K F d v → d.py.plain = true → Dp K H v d.py
 | _, _, .non, _ => .non
 | _, _, .bl b, _ => .bl b
 | _, _, .int i, _ => .int i
 | _, _, .str x, _ => .str x
 | _, _, .lst h r, p => .lst (.of (e _ _ h)) (Reps.dp e r p)
 | _, _, .tup h r, p => .tup (sqt_mono e h.sq) (Reps.dp e r p)
 | _, _, .dT h r, p => nomatch p
 | _, _, .dK h r, p => nomatch p
theorem Reps.dp {K : PySem.W.Frag} {F H : Hp} (e : Ex F H) : ∀ {d : List D} {v : List V}, Reps K F d v → PyData.plainAll (pyAll d) = true → DpAll K H v (pyAll d)
 | _, _, .nil, _ => .nil
 | _, _, .cons h r, p => by
  obtain ⟨p1, p2⟩:=Bool.and_eq_true_iff.mp p
  exact .cons (Rep.dp e h p1) (Reps.dp e r p2)
end
theorem RepU.dp {K : PySem.W.Frag} {F H : Hp} {d : D} {v : V} (e : Ex F H) (r : RepU K F H d v) (p : d.py.plain = true) : Dp K H v d.py:=by
 cases r with
 | flat h => exact dp_flat h
 | lst h r => exact .lst (.of h) (r.dp e p)
 | tup _ h r => exact .tup h (r.dp e p)
 | dT _ _ => cases p
 | dK _ _ => cases p
def shp (d : D) : Bool:=SeqAt.shaped d.py
def eqD : D → D → Option D:=fun x y => ifO (shp x && shp y) (some (.bool (PyData.eqv x.py y.py)))
def neD : D → D → Option D:=fun x y => ifO (shp x && shp y) (some (.bool (!PyData.eqv x.py y.py)))
theorem plain_shaped {d : D} (h : shp d = true) : d.py.plain = true:=PyData.plain_of_canLay0 d.py (SeqAt.canLay_of_shaped h)
theorem l_eqD {K : PySem.W.Frag} : OpL T K (rEqD K) eqD:=by
 intro G F A S H x y dx dy z Q hw rx ry e q
 obtain ⟨c, e⟩:=ifO_some e
 cases e
 obtain ⟨c1, c2⟩:=Bool.and_eq_true_iff.mp c
 exact ⟨dx.py, dy.py, rx.dp hw.sub (plain_shaped c1), ry.dp hw.sub (plain_shaped c2), c1, c2, q F H _ (Evl.Ex.refl F) hw (.bl _)⟩
theorem l_neD {K : PySem.W.Frag} : OpL T K (rNeD K) neD:=by
 intro G F A S H x y dx dy z Q hw rx ry e q
 obtain ⟨c, e⟩:=ifO_some e
 cases e
 obtain ⟨c1, c2⟩:=Bool.and_eq_true_iff.mp c
 exact ⟨dx.py, dy.py, rx.dp hw.sub (plain_shaped c1), ry.dp hw.sub (plain_shaped c2), c1, c2, q F H _ (Evl.Ex.refl F) hw (.bl _)⟩
def isN : D → D → Option D
 | .none, .none => some (.bool true)
 | _, .none => some (.bool false)
 | _, _ => none
def isNN : D → D → Option D
 | .none, .none => some (.bool false)
 | _, .none => some (.bool true)
 | _, _ => none
theorem RepU.non_iff {K : PySem.W.Frag} {F H : Hp} {d : D} {v : V} (r : RepU K F H d v) : v = .non ↔ d = .none:=by
 cases r with
 | flat h =>
  cases d with
  | none => cases h; simp
  | bool _ => cases h; simp
  | int _ => cases h; simp
  | str _ => cases h; simp
  | _ => cases h
 | lst _ _ => simp
 | tup _ _ _ => simp
 | dT _ _ => simp
 | dK _ _ => simp
theorem l_isN {K : PySem.W.Frag} : OpL T K (fun x y H Q => y = .non ∧ Q (.bl (decide (x = .non))) H) isN:=by
 intro G F A S H x y dx dy z Q hw rx ry e q
 have h2 : dy = .none ∧ z = .bool (decide (x = .non)):=by
  unfold isN at e
  split at e
  ·cases e
   exact ⟨rfl, by rw [decide_eq_true (rx.non_iff.mpr rfl)]⟩
  ·rename_i h
   cases e
   exact ⟨rfl, by rw [decide_eq_false fun q => h (rx.non_iff.mp q)]⟩
  ·cases e
 obtain ⟨rfl, rfl⟩:=h2
 exact ⟨ry.non_iff.mpr rfl, q F H _ (Evl.Ex.refl F) hw (.bl _)⟩
theorem l_isNN {K : PySem.W.Frag} : OpL T K (fun x y H Q => y = .non ∧ Q (.bl (!decide (x = .non))) H) isNN:=by
 intro G F A S H x y dx dy z Q hw rx ry e q
 have h2 : dy = .none ∧ z = .bool (!decide (x = .non)):=by
  unfold isNN at e
  split at e
  ·cases e
   exact ⟨rfl, by rw [decide_eq_true (rx.non_iff.mpr rfl)]; rfl⟩
  ·rename_i h
   cases e
   exact ⟨rfl, by rw [decide_eq_false fun q => h (rx.non_iff.mp q)]; rfl⟩
  ·cases e
 obtain ⟨rfl, rfl⟩:=h2
 exact ⟨ry.non_iff.mpr rfl, q F H _ (Evl.Ex.refl F) hw (.bl _)⟩
end
end Vz
namespace Vz
open PySem PySem.Spec PyProof.Rows L2
section
variable {T : Tb} {X : Cx} {Wx : WX}
def cE (T : Tb) (K : PySem.W.Frag) (Wx : WX) (f : FE) : TE:=fun σ H Q => ∃ G F A S ρ, Wd (T.g G) K F A S H ∧ Sl K F A ρ σ ∧ Post (T.g G) K (RepW K) F A (f ρ S) Q (fun c d H' => Wx c d σ H')
def cT (T : Tb) (K : PySem.W.Frag) (Wx : WX) (f : FT) : TT:=fun σ H Q => ∃ G F A S ρ, Wd (T.g G) K F A S H ∧ Sl K F A ρ σ ∧ Post (T.g G) K relB F A (f ρ S) Q (fun c d H' => Wx c d σ H')
def cS (T : Tb) (K : PySem.W.Frag) (Wx : WX) (f : FS) : TS:=fun D σ H => ∃ G F A S ρ, Wd (T.g G) K F A S H ∧ Sl K F A ρ σ ∧ PostS (T.g G) K F A (f ρ S) D Wx
theorem PE.weak {e : Expr} {t u : TE} (h : PE X e t) (i : ∀ σ H Q, u σ H Q → t σ H Q) : PE X e u:=⟨fun p s σ H Q I q => h.run p s σ H Q I (i σ H Q q)⟩
theorem PT.weak {e : Expr} {t u : TT} (h : PT X e t) (i : ∀ σ H Q, u σ H Q → t σ H Q) : PT X e u:=⟨fun p s σ H Q I q => h.run p s σ H Q I (i σ H Q q)⟩
theorem PSs.weak {e : List Stmt} {t u : TS} (h : PSs X e t) (i : ∀ D σ H, u D σ H → t D σ H) : PSs X e u:=⟨fun p s σ H D I q => h.run p s σ H D I (i D σ H q)⟩
theorem JE.pe {e : Expr} {f : FE} (h : JE T X Wx e f) : PE X e (cE T X.K Wx f):=by
 obtain ⟨t, h1, h2⟩:=h
 exact PE.weak h1 fun σ H Q ⟨G, F, A, S, ρ, a, b, c⟩ => h2 G F A S H σ ρ Q a b c
theorem JT.pt {e : Expr} {f : FT} (h : JT T X Wx e f) : PT X e (cT T X.K Wx f):=by
 obtain ⟨t, h1, h2⟩:=h
 exact PT.weak h1 fun σ H Q ⟨G, F, A, S, ρ, a, b, c⟩ => h2 G F A S H σ ρ Q a b c
theorem JB.pss {e : List Stmt} {f : FS} (h : JB T X Wx e f) : PSs X e (cS T X.K Wx f):=by
 obtain ⟨t, h1, h2⟩:=h
 exact PSs.weak h1 fun D σ H ⟨G, F, A, S, ρ, a, b, c⟩ => h2 G F A S H σ ρ D a b c
variable {a b c e : Expr} {fa fb fc : FE} {ta tb tc : FT} {pos : Pos} {rest : List Expr}
def fAnd (t u : FT) : FT:=fun ρ S => (t ρ S).bind fun c S1 => match c with
 | true => u ρ S1
 | false => .ok false S1
def fOr (t u : FT) : FT:=fun ρ S => (t ρ S).bind fun c S1 => match c with
 | true => .ok true S1
 | false => u ρ S1
def fNot (t : FT) : FT:=fun ρ S => (t ρ S).bind fun c S1 => .ok (!c) S1
def fV (t : FT) : FE:=fun ρ S => (t ρ S).bind fun c S1 => .ok (.dat (.bool c)) S1
theorem jt_of_jw (h : JW T X Wx e ta) : JT T X Wx e ta:=by
 obtain ⟨t, h1, h2⟩:=h
 exact ⟨t, h1.pt, h2⟩
theorem jw_and1 (h : JT T X Wx a ta) : JW T X Wx (.BoolOp .And [a] pos) ta:=by
 obtain ⟨t, h1, h2⟩:=h
 exact ⟨t, pw_and1 h1, h2⟩
theorem jw_or1 (h : JT T X Wx a ta) : JW T X Wx (.BoolOp .Or [a] pos) ta:=by
 obtain ⟨t, h1, h2⟩:=h
 exact ⟨t, pw_or1 h1, h2⟩
theorem jw_and (ha : JT T X Wx a ta) (hb : JW T X Wx (.BoolOp .And (b :: rest) pos) tb) : JW T X Wx (.BoolOp .And (a :: b :: rest) pos) (fAnd ta tb):=by
 obtain ⟨t, h1, s1⟩:=ha
 obtain ⟨u, h2, s2⟩:=hb
 refine ⟨_, pw_and h1 h2, fun G F A S H σ ρ Q hw hs hp => ?_⟩
 refine s1 G F A S H σ ρ _ hw hs (hp.bind fun x S1 F1 A1 H1 v1 e1 p1 w1 r1 hp1 => ?_)
 cases r1
 cases x with
 | true => exact s2 G F1 A1 S1 H1 σ ρ Q w1 (hs.mono e1 p1) hp1
 | false => exact hp1 F1 A1 H1 _ (Evl.Ex.refl _) (Pre.refl _) w1 rfl
theorem jw_or (ha : JT T X Wx a ta) (hb : JW T X Wx (.BoolOp .Or (b :: rest) pos) tb) : JW T X Wx (.BoolOp .Or (a :: b :: rest) pos) (fOr ta tb):=by
 obtain ⟨t, h1, s1⟩:=ha
 obtain ⟨u, h2, s2⟩:=hb
 refine ⟨_, pw_or h1 h2, fun G F A S H σ ρ Q hw hs hp => ?_⟩
 refine s1 G F A S H σ ρ _ hw hs (hp.bind fun x S1 F1 A1 H1 v1 e1 p1 w1 r1 hp1 => ?_)
 cases r1
 cases x with
 | true => exact hp1 F1 A1 H1 _ (Evl.Ex.refl _) (Pre.refl _) w1 rfl
 | false => exact s2 G F1 A1 S1 H1 σ ρ Q w1 (hs.mono e1 p1) hp1
theorem jt_not (ha : JT T X Wx a ta) : JT T X Wx (.UnaryOp .Not a pos) (fNot ta):=by
 obtain ⟨t, h1, s1⟩:=ha
 refine ⟨_, pt_not h1, fun G F A S H σ ρ Q hw hs hp => ?_⟩
 refine s1 G F A S H σ ρ _ hw hs (hp.bind fun x S1 F1 A1 H1 v1 e1 p1 w1 r1 hp1 => ?_)
 cases r1
 exact hp1 F1 A1 H1 _ (Evl.Ex.refl _) (Pre.refl _) w1 rfl
def fAndV (f g : FE) : FE:=fun ρ S => (fB f ρ S).bind fun c S1 => match c with
 | true => g ρ S1
 | false => .ok (.dat (.bool false)) S1
def fOrV (f g : FE) : FE:=fun ρ S => (fB f ρ S).bind fun c S1 => match c with
 | true => .ok (.dat (.bool true)) S1
 | false => g ρ S1
def fNotV (f : FE) : FE:=fun ρ S => (fB f ρ S).bind fun c S1 => .ok (.dat (.bool (!c))) S1
theorem je_one {op} (h : JE T X Wx a fa) : JE T X Wx (.BoolOp op [a] pos) fa:=by
 obtain ⟨t, h1, h2⟩:=h
 exact ⟨t, pe_one h1, h2⟩
theorem je_and (ha : JE T X Wx a fa) (hb : JE T X Wx (.BoolOp .And (b :: rest) pos) fb) : JE T X Wx (.BoolOp .And (a :: b :: rest) pos) (fAndV fa fb):=by
 obtain ⟨t, h1, s1⟩:=ha
 obtain ⟨u, h2, s2⟩:=hb
 refine ⟨_, pe_and h1 h2, fun G F A S H σ ρ Q hw hs hp => ?_⟩
 refine semT_B s1 G F A S H σ ρ _ hw hs (hp.bind fun x S1 F1 A1 H1 v1 e1 p1 w1 r1 hp1 => ?_)
 cases r1
 cases x with
 | true => exact s2 G F1 A1 S1 H1 σ ρ Q w1 (hs.mono e1 p1) hp1
 | false => exact hp1 F1 A1 H1 _ (Evl.Ex.refl _) (Pre.refl _) w1 (.bl _)
theorem je_or (ha : JE T X Wx a fa) (hb : JE T X Wx (.BoolOp .Or (b :: rest) pos) fb) : JE T X Wx (.BoolOp .Or (a :: b :: rest) pos) (fOrV fa fb):=by
 obtain ⟨t, h1, s1⟩:=ha
 obtain ⟨u, h2, s2⟩:=hb
 refine ⟨_, pe_or h1 h2, fun G F A S H σ ρ Q hw hs hp => ?_⟩
 refine semT_B s1 G F A S H σ ρ _ hw hs (hp.bind fun x S1 F1 A1 H1 v1 e1 p1 w1 r1 hp1 => ?_)
 cases r1
 cases x with
 | true => exact hp1 F1 A1 H1 _ (Evl.Ex.refl _) (Pre.refl _) w1 (.bl _)
 | false => exact s2 G F1 A1 S1 H1 σ ρ Q w1 (hs.mono e1 p1) hp1
theorem je_not (ha : JE T X Wx a fa) : JE T X Wx (.UnaryOp .Not a pos) (fNotV fa):=by
 obtain ⟨t, h1, s1⟩:=ha
 refine ⟨_, pe_not h1, fun G F A S H σ ρ Q hw hs hp => ?_⟩
 refine semT_B s1 G F A S H σ ρ _ hw hs (hp.bind fun x S1 F1 A1 H1 v1 e1 p1 w1 r1 hp1 => ?_)
 cases r1
 exact hp1 F1 A1 H1 _ (Evl.Ex.refl _) (Pre.refl _) w1 (.bl _)
def fIf (t : FT) (f g : FE) : FE:=fun ρ S => (t ρ S).bind fun c S1 => match c with
 | true => f ρ S1
 | false => g ρ S1
theorem je_if (hc : JT T X Wx c tc) (ha : JE T X Wx a fa) (hb : JE T X Wx b fb) : JE T X Wx (.IfExp c a b pos) (fIf tc fa fb):=by
 obtain ⟨t0, h0, s0⟩:=hc
 obtain ⟨t, h1, s1⟩:=ha
 obtain ⟨u, h2, s2⟩:=hb
 refine ⟨_, pe_ifExp h0 h1 h2, fun G F A S H σ ρ Q hw hs hp => ?_⟩
 refine s0 G F A S H σ ρ _ hw hs (hp.bind fun x S1 F1 A1 H1 v1 e1 p1 w1 r1 hp1 => ?_)
 cases r1
 cases x with
 | true => exact s1 G F1 A1 S1 H1 σ ρ Q w1 (hs.mono e1 p1) hp1
 | false => exact s2 G F1 A1 S1 H1 σ ρ Q w1 (hs.mono e1 p1) hp1
def fChain (g g' : D → D → Option D) (a b c : FE) : FE:=fun ρ S => (a ρ S).bind fun x S1 => (b ρ S1).bind fun y S2 => (R.lift (((rd2 S2 x y g).map W.dat).bind asB) S2).bind fun k S3 => match k with
 | true => (c ρ S3).bind fun z S4 => R.lift ((rd2 S4 y z g').map W.dat) S4
 | false => .ok (.dat (.bool false)) S3
theorem semE_chain {K : PySem.W.Frag} {r r' : R2} {g g' : D → D → Option D} {t1 t2 t3 : TE} (s1 : SemE T K Wx t1 fa) (s2 : SemE T K Wx t2 fb) (s3 : SemE T K Wx t3 fc) (l : OpL T K r g) (l' : OpL T K r' g') :
  SemE T K Wx (tChain r r' t1 t2 t3) (fChain g g' fa fb fc):=by
 intro G F A S H σ ρ Q hw hs hp
 refine s1 G F A S H σ ρ _ hw hs (hp.bind fun x S1 F1 A1 H1 v1 e1 p1 w1 r1 hp1 => ?_)
 refine s2 G F1 A1 S1 H1 σ ρ _ w1 (hs.mono e1 p1) (hp1.bind fun y S2 F2 A2 H2 v2 e2 p2 w2 r2 hp2 => ?_)
 cases q : (rd2 S2 x y g).map W.dat with
 | none => rw [q] at hp2; exact hp2.elim
 | some w =>
  obtain ⟨dx, dy, z, h1, h2, h3, rfl⟩:=rd2_some q
  rw [q] at hp2
  refine l _ F2 A2 S2 H2 v1 v2 dx dy z _ w2 (rd_rep w2 (r1.mono e2 p2) h1) (rd_rep w2 r2 h2) h3 fun F3 H3 v3 e3 w3 r3 => ?_
  cases z with
  | bool k =>
   cases r3
   refine ⟨k, rfl, ?_⟩
   have hp3:=Post.shift hp2 e3 (Pre.refl A2)
   cases k with
   | true =>
    refine s3 G F3 A2 S2 H3 σ ρ _ w3 (((hs.mono e1 p1).mono e2 p2).mono e3 (Pre.refl _)) (Post.bind hp3 fun z S4 F4 A4 H4 v4 e4 p4 w4 r4 hp4 => ?_)
    obtain ⟨w', hw', q'⟩:=hp4.lift
    obtain ⟨dx', dy', z', h1', h2', h3', rfl⟩:=rd2_some hw'
    exact l' G F4 A4 S4 H4 v2 v4 dx' dy' z' Q w4 (rd_rep w4 (r2.mono (e3.trans e4) p4) h1') (rd_rep w4 r4 h2') h3' fun F5 H5 v5 e5 w5 r5 => q' F5 A4 H5 v5 e5 (Pre.refl _) w5 r5
   | false => exact hp3 F3 A2 H3 _ (Evl.Ex.refl _) (Pre.refl _) w3 (.bl _)
  | _ => exact hp2.elim
theorem je_chain {op op' : CmpOp} {r r' : R2} {g g' : D → D → Option D} (ho : OpR X (compareOp op) r) (hl : OpL T X.K r g) (ho' : OpR X (compareOp op') r') (hl' : OpL T X.K r' g') (ha : JE T X Wx a fa) (hb : JE T X Wx b fb) (hc : JE T X Wx c fc)
  (hm : lastMarks [op, op'] [b, c] = false:=by with_unfolding_all rfl) : JE T X Wx (.Compare a [op, op'] [b, c] pos) (fChain g g' fa fb fc):=by
 obtain ⟨t1, h1, s1⟩:=ha
 obtain ⟨t2, h2, s2⟩:=hb
 obtain ⟨t3, h3, s3⟩:=hc
 exact ⟨_, pe_chain ho ho' h1 h2 h3 hm, semE_chain s1 s2 s3 hl hl'⟩
theorem jt_chain {op op' : CmpOp} {r r' : R2} {g g' : D → D → Option D} (ho : OpR X (compareOp op) r) (hl : OpL T X.K r g) (ho' : OpR X (compareOp op') r') (hl' : OpL T X.K r' g') (ha : JE T X Wx a fa) (hb : JE T X Wx b fb) (hc : JE T X Wx c fc)
  (hm : lastMarks [op, op'] [b, c] = false:=by with_unfolding_all rfl) : JT T X Wx (.Compare a [op, op'] [b, c] pos) (fB (fChain g g' fa fb fc)):=by
 obtain ⟨t1, h1, s1⟩:=ha
 obtain ⟨t2, h2, s2⟩:=hb
 obtain ⟨t3, h3, s3⟩:=hc
 exact ⟨_, pt_chain ho ho' h1 h2 h3 hm, semT_B (semE_chain s1 s2 s3 hl hl')⟩

variable {es : List Expr} {ga : FA}
def aNil : FA:=fun _ S => .ok [] S
def aCons (f : FE) (g : FA) : FA:=fun ρ S => (f ρ S).bind fun w S1 => (g ρ S1).bind fun ws S2 => .ok (w :: ws) S2
theorem ja_nil : JA T X Wx [] aNil:=⟨_, pa_nil, fun G F A S H σ ρ Q hw hs hp => hp F A H [] (Evl.Ex.refl _) (Pre.refl _) hw .nil⟩
theorem ja_cons (he : JE T X Wx e fa) (hr : JA T X Wx es ga) (hs : starEach (e :: es) X.env = (false, eval e X.env) :: starEach es X.env:=by rfl) : JA T X Wx (e :: es) (aCons fa ga):=by
 obtain ⟨t1, h1, s1⟩:=he
 obtain ⟨t2, h2, s2⟩:=hr
 refine ⟨_, pa_cons h1 h2 hs, fun G F A S H σ ρ Q hw hs hp => ?_⟩
 refine s1 G F A S H σ ρ _ hw hs (hp.bind fun x S1 F1 A1 H1 v1 e1 p1 w1 r1 hp1 => ?_)
 refine s2 G F1 A1 S1 H1 σ ρ _ w1 (hs.mono e1 p1) (hp1.bind fun y S2 F2 A2 H2 v2 e2 p2 w2 r2 hp2 => ?_)
 exact hp2 F2 A2 H2 _ (Evl.Ex.refl _) (Pre.refl _) w2 (.cons (r1.mono e2 p2) r2)
def rds (S : Sto) : List W → Option (List D)
 | [] => some []
 | w :: ws => (rd S w).bind fun d => (rds S ws).bind fun ds => some (d :: ds)
theorem rds_cons {S : Sto} {w : W} {ws : List W} {ds : List D} (h : rds S (w :: ws) = some ds) : ∃ d r, rd S w = some d ∧ rds S ws = some r ∧ ds = d :: r:=by
 simp only [rds] at h
 cases h1 : rd S w with
 | none => rw [h1] at h; cases h
 | some d =>
  cases h2 : rds S ws with
  | none => rw [h1, h2] at h; cases h
  | some r =>
   rw [h1, h2] at h
   cases h
   exact ⟨d, r, rfl, rfl, rfl⟩
abbrev RepUs (K : PySem.W.Frag) (F H : Hp) : List D → List V → Prop:=Paired (RepU K F H)
theorem rds_rep {K : PySem.W.Frag} {F H : Hp} {A : List (List Addr)} {S : Sto} (hw : Wd T K F A S H) : ∀ {ws : List W} {vs : List V} {ds : List D}, RepWs K F A ws vs → rds S ws = some ds → RepUs K F H ds vs
 | _, _, _, .nil, h => by
  cases h
  exact .nil
 | _, _, _, .cons r rr, h => by
  obtain ⟨d, r', h1, h2, rfl⟩:=rds_cons h
  exact .cons (rd_rep hw r h1) (rds_rep hw rr h2)
def dats : List W → Option (List D)
 | [] => some []
 | .dat d :: ws => (dats ws).bind fun ds => some (d :: ds)
 | _ => none
theorem dats_rep {K : PySem.W.Frag} {F : Hp} {A : List (List Addr)} : ∀ {ws : List W} {vs : List V} {ds : List D}, RepWs K F A ws vs → dats ws = some ds → Reps K F ds vs
 | _, _, _, .nil, h => by
  cases h
  exact .nil
 | w :: ws, _, _, .cons r rr, h => by
  cases w with
  | dat d =>
   simp only [dats] at h
   cases h2 : dats ws with
   | none => rw [h2] at h; cases h
   | some r' =>
    rw [h2] at h
    cases h
    exact .cons r (dats_rep rr h2)
  | loc k j => cases h
  | scr ns => cases h
  | exn x => cases h
  | xl x => cases h
def small (ds : List D) : Option (List D):=ifO (decide (ds.length ≤ lim)) (some ds)
theorem small_some {ws : List W} {f : List D → W} {w : W} (h : (((dats ws).bind small).map f) = some w) : ∃ ds, dats ws = some ds ∧ ds.length ≤ lim ∧ w = f ds:=by
 cases h1 : dats ws with
 | none => rw [h1] at h; cases h
 | some ds =>
  rw [h1, Option.bind_some] at h
  unfold small at h
  cases h2 : decide (ds.length ≤ lim) with
  | false => rw [h2] at h; cases h
  | true =>
   rw [h2] at h
   cases h
   exact ⟨ds, rfl, of_decide_eq_true h2, rfl⟩
def tTupF (t : TA) : TE:=fun σ H Q => t σ H fun xs H1 => xs.length ≤ sizeLine ∧ NewT H1 xs Q
theorem pe_tupF {k : Nat} {t : TA} (h : PA X es t) : PE X (.Tuple es k pos) (tTupF t):=by
 refine ⟨fun pins s σ H Q I hq => ?_⟩
 refine wpAny_Tuple_spliced (thn (h.run pos pins s σ H _ I hq) fun us s1 ⟨xs, H1, I1, r, z, q⟩ => ⟨by rw [← r.length]; exact z, ?_⟩)
 have hf : H1 s1.heap.objs.size = none:=I1.hok.fresh (Nat.le_refl _)
 exact ⟨.ref s1.heap.objs.size, _, tup_new (t':=s1.toks) I1 r z, rfl, q _ _ hf rfl⟩
def fTup (g : FA) : FE:=fun ρ S => (g ρ S).bind fun ws S1 => R.lift (((dats ws).bind small).map fun ds => .dat (.tup .nod ds)) S1
theorem je_tup {k : Nat} (h : JA T X Wx es ga) : JE T X Wx (.Tuple es k pos) (fTup ga):=by
 obtain ⟨t1, h1, s1⟩:=h
 refine ⟨_, pe_tupF h1, fun G F A S H σ ρ Q hw hs hp => ?_⟩
 refine s1 G F A S H σ ρ _ hw hs (hp.bind fun ws S1 F1 A1 H1 v1 e1 p1 w1 r1 hp1 => ?_)
 obtain ⟨w, hw', q⟩:=hp1.lift
 obtain ⟨ds, h2, h3, rfl⟩:=small_some hw'
 have rr:=dats_rep r1 h2
 exact ⟨by rw [← rr.length]; exact lim_le h3, fun p o hp ho => q _ A1 _ _ (w1.exNew hp _) (Pre.refl _) (w1.new hp _) (.tup (.inl ⟨o, upd_same, ho⟩) (rr.mono (w1.exNew hp _)))⟩
def fTupK (g : FA) : FE:=fun ρ S => (g ρ S).bind fun ws S1 => R.lift (((dats ws).bind small).map fun ds => .dat (.tup .key ds)) S1
theorem je_tupK {k : Nat} (h : JA T X Wx es ga) : JE T X Wx (.Tuple es k pos) (fTupK ga):=by
 obtain ⟨t1, h1, s1⟩:=h
 refine ⟨_, pe_tup h1, fun G F A S H σ ρ Q hw hs hp => ?_⟩
 refine s1 G F A S H σ ρ _ hw hs (hp.bind fun ws S1 F1 A1 H1 v1 e1 p1 w1 r1 hp1 => ?_)
 obtain ⟨w, hw', q⟩:=hp1.lift
 obtain ⟨ds, h2, h3, rfl⟩:=small_some hw'
 have rr:=dats_rep r1 h2
 exact ⟨by rw [← rr.length]; exact lim_le h3, fun p hp => q _ A1 _ _ (w1.exNew hp _) (Pre.refl _) (w1.new hp _) (.tup (f:=.key) upd_same (rr.mono (w1.exNew hp _)))⟩

abbrev FL:=Rho → Sto → R (List D)
def PostL (T : Tb) (K : PySem.W.Frag) (F : Hp) (A : List (List Addr)) (r : R (List D)) (Q : VK) (Wx : XK) : Prop :=
 match r with
 | .ok ds S => ∀ F' A' H' p vs, Ex F F' → Pre A A' → Wd T K F' A' S H' → H' p = some (.lst vs) → F' p = none → T.G p = none → p ∉ A'.flatten → Reps K F' ds vs → Q (.ref p) H'
 | .exc x S => ∀ F' A' H' cls d, Ex F F' → Pre A A' → Wd T K F' A' S H' → RepX T K F' x cls d → Wx cls d H'
 | .bad => False
theorem PostL.shift {K : PySem.W.Frag} {F : Hp} {A : List (List Addr)} {W : XK} {F' : Hp} {A' : List (List Addr)} {r : R (List D)} {Q : VK} (h : PostL T K F A r Q W) (e : Ex F F') (p : Pre A A') : PostL T K F' A' r Q W:=by
 cases r with
 | ok a S => exact fun F2 A2 H2 q v e2 p2 => h F2 A2 H2 q v (e.trans e2) (p.trans p2)
 | exc x S => exact fun F2 A2 H2 c d e2 p2 => h F2 A2 H2 c d (e.trans e2) (p.trans p2)
 | bad => exact h
theorem PostL.bind {α β : Type} {K : PySem.W.Frag} {F : Hp} {A : List (List Addr)} {W : XK} {rel1 : Hp → List (List Addr) → α → β → Prop} {r : R α} {k : α → Sto → R (List D)} {P : β → Hp → Prop} {Q : VK} (h : PostL T K F A (r.bind k) Q W)
  (hk : ∀ a S' F' A' H' v, Ex F F' → Pre A A' → Wd T K F' A' S' H' → rel1 F' A' a v → PostL T K F' A' (k a S') Q W → P v H') : Post T K rel1 F A r P W:=by
 cases r with
 | ok a S => exact fun F2 A2 H2 v e2 p2 w2 r2 => hk a S F2 A2 H2 v e2 p2 w2 r2 (h.shift e2 p2)
 | exc x S => exact h
 | bad => exact h
theorem PostL.new {K : PySem.W.Frag} {F H : Hp} {A : List (List Addr)} {S : Sto} {W : XK} {ds : List D} {vs : List V} {Q : VK} {p : Addr} (h : PostL T K F A (.ok ds S) Q W) (hw : Wd T K F A S H) (r : Reps K F ds vs) (hp : H p = none) : Q (.ref p) (upd H p (.lst vs)):=by
 refine h F A _ p vs (Evl.Ex.refl _) (Pre.refl _) (hw.junk hp _) upd_same (hw.freshF hp) (Evl.fresh_back hw.gh hp) (fun z => ?_) r
 have:=hw.there p z
 rw [hp] at this
 cases this
structure JL (T : Tb) (X : Cx) (Wx : WX) (e : Expr) (f : FL) : Prop where
 ex : ∃ t, PE X e t ∧ ∀ G F A S H σ ρ Q, Wd (T.g G) X.K F A S H → Sl X.K F A ρ σ → PostL (T.g G) X.K F A (f ρ S) Q (fun c d H' => Wx c d σ H') → t σ H Q
theorem Wd.adopt {K : PySem.W.Frag} {F H : Hp} {A : List (List Addr)} {S : Sto} {p : Addr} {o : HO} (hw : Wd T K F A S H) (h : H p = some o) (hF : F p = none) (hG : T.G p = none) (hA : p ∉ A.flatten) (ho : ∀ ps, o ≠ .tbl ps:=by intro ps z; cases z) : Wd T K (upd F p o) A S H:=by
 refine ⟨fun a u e => ?_, hw.len, fun k as c h1 h2 => (hw.ok k as c h1 h2).more (Evl.Ex.new hF) (fun a ha e => ?_) (fun _ _ _ => rfl), hw.nod, hw.there, hw.gh, hw.gd, fun a u e => ?_, ⟨hw.tb.tabs, fun q hq => by rw [upd_ne (hw.tb.n2 hq h ho)]; exact hw.tb.f q hq, hw.tb.g, hw.tb.a, fun b ps z => by
  by_cases e : b = p
  ·subst e
   rw [upd_same] at z
   exact ho ps (Option.some.inj z)
  ·rw [upd_ne e] at z
   exact hw.tb.nf b ps z, hw.tb.ng, hw.tb.na⟩⟩
 ·by_cases z : a = p
  ·subst z
   rw [upd_same] at e
   rw [h]
   exact e
  ·rw [upd_ne z] at e
   exact hw.sub a u e
 ·rw [upd_ne]
  ·exact e
  ·rintro rfl
   exact hA (mem_flat h1 ha)
 ·by_cases z : a = p
  ·subst z
   exact .inl hG
  ·rw [upd_ne z] at e
   exact hw.fg a u e
theorem Wd.adoptC {K : PySem.W.Frag} {F H : Hp} {A : List (List Addr)} {S : Sto} {p : Addr} {o : HO} {c : C} (hw : Wd T K F A S H) (h : H p = some o) (hg : T.G p = none) (hA : p ∉ A.flatten) (hc : COk T K F H [p] c) (ho : ∀ ps, o ≠ .tbl ps:=by intro ps z; cases z) : Wd T K F (A ++ [[p]]) (S ++ [c]) H:=by
 refine ⟨hw.sub, by rw [List.length_append, List.length_append, hw.len]; rfl, fun k as c' h1 h2 => ?_, ?_, fun a ha => ?_, hw.gh, fun a ha => ?_, hw.fg, ⟨hw.tb.tabs, hw.tb.f, hw.tb.g, fun q hq m => by
  rw [List.flatten_append, List.flatten_singleton] at m
  rcases List.mem_append.mp m with m | m
  ·exact hw.tb.a q hq m
  ·exact hw.tb.n2 hq h ho (List.mem_singleton.mp m), hw.tb.nf, hw.tb.ng, fun b hb ps z => by
  rw [List.flatten_append, List.flatten_singleton] at hb
  rcases List.mem_append.mp hb with m | m
  ·exact hw.tb.na b m ps z
  ·rw [List.mem_singleton.mp m, h] at z
   exact ho ps (Option.some.inj z)⟩⟩
 ·by_cases hk : k < A.length
  ·rw [List.getElem?_append_left hk] at h1
   rw [List.getElem?_append_left (by rw [← hw.len]; exact hk)] at h2
   exact hw.ok k as c' h1 h2
  ·have hk' : k = A.length:=by
    have:=(List.getElem?_eq_some_iff.mp h1).1
    rw [List.length_append, List.length_singleton] at this
    omega
   subst hk'
   rw [List.getElem?_concat_length] at h1
   rw [hw.len, List.getElem?_concat_length] at h2
   cases Option.some.inj h1
   cases Option.some.inj h2
   exact hc
 ·rw [List.flatten_append, List.flatten_singleton, List.nodup_append]
  refine ⟨hw.nod, by simp, fun a ha b hb z => ?_⟩
  rw [List.mem_singleton] at hb
  subst z
  subst hb
  exact hA ha
 ·rw [List.flatten_append, List.flatten_singleton] at ha
  rcases List.mem_append.mp ha with ha | ha
  ·exact hw.there a ha
  ·rw [List.mem_singleton] at ha
   subst ha
   rw [h]
   rfl
 ·rw [List.flatten_append, List.flatten_singleton] at ha
  rcases List.mem_append.mp ha with ha | ha
  ·exact hw.gd a ha
  ·rw [List.mem_singleton] at ha
   subst ha
   exact hg
def fFrz (g : FL) : FE:=fun ρ S => (g ρ S).bind fun ds S1 => .ok (.dat (.list ds)) S1
def fCell (g : FL) : FE:=fun ρ S => (g ρ S).bind fun ds S1 => .ok (.loc S1.length 0) (S1 ++ [.lst ds])
theorem je_frz {f : FL} (h : JL T X Wx e f) : JE T X Wx e (fFrz f):=by
 obtain ⟨t, h1, s1⟩:=h
 refine ⟨t, h1, fun G F A S H σ ρ Q hw hs hp => s1 G F A S H σ ρ Q hw hs ?_⟩
 unfold fFrz at hp
 cases q : f ρ S with
 | ok ds S1 =>
  rw [q] at hp
  exact fun F1 A1 H1 p vs e1 p1 w1 hH hF hG hA hr => hp _ A1 H1 _ (e1.trans (Evl.Ex.new hF)) p1 (w1.adopt hH hF hG hA) (.lst upd_same (hr.mono (Evl.Ex.new hF)))
 | exc x S1 => rw [q] at hp; exact hp
 | bad => rw [q] at hp; exact hp
theorem je_cell {f : FL} (h : JL T X Wx e f) : JE T X Wx e (fCell f):=by
 obtain ⟨t, h1, s1⟩:=h
 refine ⟨t, h1, fun G F A S H σ ρ Q hw hs hp => s1 G F A S H σ ρ Q hw hs ?_⟩
 unfold fCell at hp
 cases q : f ρ S with
 | ok ds S1 =>
  rw [q] at hp
  refine fun F1 A1 H1 p vs e1 p1 w1 hH hF hG hA hr => hp F1 (A1 ++ [[p]]) H1 _ e1 (p1.trans (Pre.push _ _)) (w1.adoptC hH hG hA ⟨p, vs, rfl, hF, hH, hr⟩) ⟨[p], p, ?_, rfl, rfl⟩
  rw [← w1.len, List.getElem?_concat_length]
 | exc x S1 => rw [q] at hp; exact hp
 | bad => rw [q] at hp; exact hp
def lDisp (g : FA) : FL:=fun ρ S => (g ρ S).bind fun ws S1 => R.lift ((dats ws).bind small) S1
theorem jl_lst (h : JA T X Wx es ga) : JL T X Wx (.List es pos) (lDisp ga):=by
 obtain ⟨t1, h1, s1⟩:=h
 refine ⟨_, pe_lst h1, fun G F A S H σ ρ Q hw hs hp => ?_⟩
 refine s1 G F A S H σ ρ _ hw hs (hp.bind fun ws S1 F1 A1 H1 v1 e1 p1 w1 r1 hp1 => ?_)
 cases h0 : (dats ws).bind small with
 | none => rw [h0] at hp1; exact hp1.elim
 | some ds =>
  rw [h0] at hp1
  obtain ⟨ds', h2, h3, e'⟩:=small_some (f:=fun ds => .dat (.list ds)) (by rw [h0]; rfl)
  cases e'
  have rr:=dats_rep r1 h2
  exact ⟨by rw [← rr.length]; exact lim_le h3, fun p hp => hp1.new w1 rr hp⟩
def lCat (f g : FE) : FL:=fun ρ S => (f ρ S).bind fun x S1 => (g ρ S1).bind fun y S2 => R.lift ((rd2 S2 x y addL).bind fun d => match d with
 | .list ds => some ds
 | _ => none) S2

def CallL (T : Tb) (K : PySem.W.Frag) (r : List V → Hp → VK → Prop) (g : List D → Option D) : Prop :=
 ∀ (G F : Hp) (A : List (List Addr)) (S : Sto) (H : Hp) (vs : List V) (ds : List D) (z : D) (Q : VK), Wd (T.g G) K F A S H → RepUs K F H ds vs → g ds = some z →
  (∀ F' H' v, Ex F F' → Wd (T.g G) K F' A S H' → Rep K F' z v → Q v H') → r vs H Q
def CallLL (T : Tb) (K : PySem.W.Frag) (r : List V → Hp → VK → Prop) (g : List D → Option (List D)) : Prop :=
 ∀ (G F : Hp) (A : List (List Addr)) (S : Sto) (H : Hp) (vs : List V) (ds : List D) (z : List D) (Q : VK), Wd (T.g G) K F A S H → RepUs K F H ds vs → g ds = some z →
  (∀ H' p us, Wd (T.g G) K F A S H' → H' p = some (.lst us) → F p = none → G p = none → p ∉ A.flatten → Reps K F z us → Q (.ref p) H') → r vs H Q
def fCall (g : List D → Option D) (f : FA) : FE:=fun ρ S => (f ρ S).bind fun ws S1 => R.lift (((rds S1 ws).bind g).map W.dat) S1
def lCall (g : List D → Option (List D)) (f : FA) : FL:=fun ρ S => (f ρ S).bind fun ws S1 => R.lift ((rds S1 ws).bind g) S1
theorem rds_some {α β : Type} {S : Sto} {ws : List W} {g : List D → Option α} {h : α → β} {w : β} (e : (((rds S ws).bind g).map h) = some w) : ∃ ds z, rds S ws = some ds ∧ g ds = some z ∧ w = h z:=by
 cases h1 : rds S ws with
 | none => rw [h1] at e; cases e
 | some ds =>
  rw [h1, Option.bind_some] at e
  cases h2 : g ds with
  | none => rw [h2] at e; cases e
  | some z => rw [h2] at e; cases e; exact ⟨ds, z, rfl, h2, rfl⟩
theorem semE_cb {K : PySem.W.Frag} {t : TA} {r : List V → Hp → VK → Prop} {g : List D → Option D} (h : SemA T K Wx t ga) (hr : CallL T K r g) : SemE T K Wx (tCB r t) (fCall g ga):=by
 intro G F A S H σ ρ Q hw hs hp
 refine h G F A S H σ ρ _ hw hs (hp.bind fun ws S1 F1 A1 H1 v1 e1 p1 w1 r1 hp1 => ?_)
 obtain ⟨w, hw', q⟩:=hp1.lift
 obtain ⟨ds, z, h2, h3, rfl⟩:=rds_some hw'
 exact hr G F1 A1 S1 H1 v1 ds z Q w1 (rds_rep w1 r1 h2) h3 fun F' H' v e' w' r' => q F' A1 H' v e' (Pre.refl _) w' r'
theorem je_callB {r : List V → Hp → VK → Prop} {g : List D → Option D} {x : Str} {id : String} {p : Pos} (hc : CallR X (.builtin id) r) (hl : CallL T X.K r g) (hg : Gl X x) (hm : X.mg x = none) (hv : bootBuiltins x = some (.builtin id)) (ha : JA T X Wx (e :: es) ga) (hn : x ≠ "__name__":=by decide)
  (hdb : (x == ("__debug__" : Str)) = false:=by decide) (he : starEach (e :: es) X.env = (false, eval e X.env) :: starEach es X.env:=by rfl) (hpl : (backTo pos (starEach es X.env)).any (·.1) = false:=by rfl) : JE T X Wx (.Call (.Name x p) (e :: es) [] pos) (fCall g ga):=by
 obtain ⟨t1, h1, s1⟩:=ha
 exact ⟨_, pe_callB hc hg hm hv h1 hn hdb he hpl, semE_cb s1 hl⟩
theorem je_callTy {r : List V → Hp → VK → Prop} {g : List D → Option D} {x : Str} {id : String} {p : Pos} (hc : CallR X (.type id) r) (hl : CallL T X.K r g) (hg : Gl X x) (hm : X.mg x = none) (hv : bootBuiltins x = some (.type id)) (ha : JA T X Wx (e :: es) ga) (hn : x ≠ "__name__":=by decide)
  (hdb : (x == ("__debug__" : Str)) = false:=by decide) (he : starEach (e :: es) X.env = (false, eval e X.env) :: starEach es X.env:=by rfl) (hpl : (backTo pos (starEach es X.env)).any (·.1) = false:=by rfl) : JE T X Wx (.Call (.Name x p) (e :: es) [] pos) (fCall g ga):=by
 obtain ⟨t1, h1, s1⟩:=ha
 exact ⟨_, pe_callTy hc hg hm hv h1 hn hdb he hpl, semE_cb s1 hl⟩
end
end Vz
namespace Vz
open PySem PySem.Spec PyProof.Rows L2
abbrev noW : WX:=fun _ _ _ _ => False
theorem tkB {X : Cx} : Takes X noW:=takes_none5
section
variable {T : Tb} {X : Cx} {Wx : WX} {e a b c : Expr} {fa fb fc f : FE} {tb tc : FT} {pos : Pos} {st : Stmt} {sts : List Stmt} {g h : FS}

def Out.andThen (r : Out) (k : Rho → Sto → Out) : Out:=match r with
 | .nx ρ S => k ρ S
 | r => r
theorem PostS.andThen {K : PySem.W.Frag} {F : Hp} {A : List (List Addr)} {r : Out} {k : FS} {D : Ends} {u : TS} (h : PostS T K F A (r.andThen k) D Wx)
  (hk : ∀ ρ S F' A' H' σ, Ex F F' → Pre A A' → Wd T K F' A' S H' → Sl K F' A' ρ σ → PostS T K F' A' (k ρ S) D Wx → u D σ H') : PostS T K F A r { D with nx:=u D } Wx:=by
 cases r with
 | nx ρ S => exact fun F2 A2 H2 σ e2 p2 w2 s2 => hk ρ S F2 A2 H2 σ e2 p2 w2 s2 (PostS.shift h e2 p2)
 | bk ρ S => exact h
 | ct ρ S => exact h
 | rt ρ S => exact h
 | exc x ρ S => exact h
 | bad => exact h
def sNil : FS:=fun ρ S => .nx ρ S
def sSeq (g h : FS) : FS:=fun ρ S => (g ρ S).andThen h
theorem jb_nil : JB T X Wx [] sNil:=⟨_, pss_nil, fun G F A S H σ ρ D hw hs hp => hp F A H σ (Evl.Ex.refl _) (Pre.refl _) hw hs⟩
theorem jb_one (h : JS T X Wx st g) : JB T X Wx [st] g:=by
 obtain ⟨t, h1, s1⟩:=h
 exact ⟨t, pss_one h1, s1⟩
theorem jb_cons (h1 : JS T X Wx st g) (h2 : JB T X Wx sts h) : JB T X Wx (st :: sts) (sSeq g h):=by
 obtain ⟨t, h1, s1⟩:=h1
 obtain ⟨u, h2, s2⟩:=h2
 refine ⟨_, pss_cons h1 h2, fun G F A S H σ ρ D hw hs hp => ?_⟩
 exact s1 G F A S H σ ρ _ hw hs (PostS.andThen hp fun ρ' S' F' A' H' σ' e p w s q => s2 G F' A' S' H' σ' ρ' D w s q)
def sPass : FS:=sNil
def sBreak : FS:=fun ρ S => .bk ρ S
def sCont : FS:=fun ρ S => .ct ρ S
def sExpr (f : FE) : FS:=fun ρ S => (f ρ S).then ρ fun _ S1 => .nx ρ S1
theorem js_expr (he : JE T X Wx e f) (hs : swapsWith e none pos.line X.env = pure false:=by rfl) : JS T X Wx (.Expr e pos) (sExpr f):=by
 obtain ⟨t, h1, s1⟩:=he
 refine ⟨_, ps_expr h1 hs, fun G F A S H σ ρ D hw hs hp => ?_⟩
 exact s1 G F A S H σ ρ _ hw hs (PostS.then hs hp fun w S' F' A' H' v e p w' r q => q F' A' H' σ (Evl.Ex.refl _) (Pre.refl _) w' (hs.mono e p))
def sRet (f : FE) : FS:=fun ρ S => (f ρ S).then ρ fun w S1 => .rt w S1
theorem js_ret (he : JE T X Wx e f) : JS T X Wx (.Return (some e) pos) (sRet f):=by
 obtain ⟨t, h1, s1⟩:=he
 refine ⟨_, ps_ret h1, fun G F A S H σ ρ D hw hs hp => ?_⟩
 exact s1 G F A S H σ ρ _ hw hs (PostS.then hs hp fun w S' F' A' H' v e p w' r q => q F' A' H' v (Evl.Ex.refl _) (Pre.refl _) w' r)
def sRetN : FS:=fun _ S => .rt (.dat .none) S
def sIf (t : FT) (g h : FS) : FS:=fun ρ S => (t ρ S).then ρ fun c S1 => match c with
 | true => g ρ S1
 | false => h ρ S1
theorem js_if {p q : List Stmt} (hc : JT T X Wx c tc) (ha : JB T X Wx p g) (hb : JB T X Wx q h) : JS T X Wx (.If c p q pos) (sIf tc g h):=by
 obtain ⟨t0, h0, s0⟩:=hc
 obtain ⟨t, h1, s1⟩:=ha
 obtain ⟨u, h2, s2⟩:=hb
 refine ⟨_, ps_if h0 h1 h2, fun G F A S H σ ρ D hw hs hp => ?_⟩
 refine s0 G F A S H σ ρ _ hw hs (PostS.then hs hp fun x S' F' A' H' v e p w' r q => ?_)
 cases r
 cases x with
 | true => exact s1 G F' A' S' H' σ ρ D w' (hs.mono e p) q
 | false => exact s2 G F' A' S' H' σ ρ D w' (hs.mono e p) q
def sSet (i : Nat) (f : FE) : FS:=fun ρ S => (f ρ S).then ρ fun w S1 => .nx (ρ.set i (some w)) S1
theorem js_set {i : Nat} {x : Str} {pos' : Pos} (hN : X.N.Nodup) (he : JE T X Wx e f) (hi : X.N[i]? = some x:=by rfl) (hx : Loc X.env.scope x:=by first | exact Or.inl rfl | exact Or.inr rfl) (hs : swapsWith e (some (.Name x pos')) pos.line X.env = pure false:=by rfl) (hf : X.fn x = true ∨ X.env.scope.names.lookup x = some .local:=by first | exact .inl rfl | exact .inr rfl | assumption) :
  JS T X Wx (.Assign [.Name x pos'] e pos) (sSet i f):=by
 obtain ⟨t, h1, s1⟩:=he
 refine ⟨_, ps_set hN hi hx h1 hs hf, fun G F A S H σ ρ D hw hs hp => ?_⟩
 refine s1 G F A S H σ ρ _ hw hs (PostS.then hs hp fun w S' F' A' H' v e p w' r q => ?_)
 exact q F' A' H' _ (Evl.Ex.refl _) (Pre.refl _) w' ((hs.mono e p).set i r)
def sAug (i : Nat) (g : D → D → Option D) (f : FE) : FS:=fun ρ S => match ρ[i]? with
 | some (some x) => (f ρ S).then ρ fun y S1 => (R.lift ((rd2 S1 x y g).map W.dat) S1).then ρ fun w S2 => .nx (ρ.set i (some w)) S2
 | _ => .bad
theorem js_aug {i : Nat} {x : Str} {op : Operator} {ti : TIp} {gD : D → D → Option D} {pos' : Pos} (hN : X.N.Nodup) (he : JE T X Wx e f) (ho : PIp X op ti) (hl : OpL T X.K ti gD) (hi : X.N[i]? = some x:=by rfl) (hx : Loc X.env.scope x:=by first | exact Or.inl rfl | exact Or.inr rfl)
  (hf : X.fn x = true ∨ X.env.scope.names.lookup x = some .local:=by first | exact .inl rfl | exact .inr rfl | assumption) : JS T X Wx (.AugAssign (.Name x pos') op e pos) (sAug i gD f):=by
 obtain ⟨t, h1, s1⟩:=he
 refine ⟨_, ps_aug hN hi hx h1 ho hf, fun G F A S H σ ρ D hw hs hp => ?_⟩
 unfold sAug at hp
 split at hp
 ·rename_i w0 e0
  obtain ⟨v0, h2, h3⟩:=hs.at_ i w0 e0
  refine ⟨v0, h2, ?_⟩
  refine s1 G F A S H σ ρ _ hw hs (PostS.then hs hp fun w S' F' A' H' v e p w' r q => ?_)
  cases q1 : (rd2 S' w0 w gD).map W.dat with
  | none => rw [q1] at q; exact q.elim
  | some w2 =>
   rw [q1] at q
   obtain ⟨dx, dy, z, g1, g2, g3, rfl⟩:=rd2_some q1
   refine hl G F' A' S' H' v0 v dx dy z _ w' (rd_rep w' (h3.mono e p) g1) (rd_rep w' r g2) g3 fun F3 H3 v3 e3 w3 r3 => ?_
   exact q F3 A' H3 _ e3 (Pre.refl _) w3 (((hs.mono e p).mono e3 (Pre.refl _)).set i r3)
 ·exact hp.elim
def sPar (i j : Nat) (f : FA) : FS:=fun ρ S => (f ρ S).then ρ fun ws S1 => match ws with
 | [v, w] => .nx ((ρ.set i (some v)).set j (some w)) S1
 | _ => .bad
theorem js_par {i j : Nat} {x y : Str} {px py pt : Pos} {kt k2 pt2} {ga : FA} (hc : X.calm = true) (hN : X.N.Nodup) (ha : JA T X Wx [a, b] ga) (hij : i ≠ j:=by decide) (hi : X.N[i]? = some x:=by rfl) (hj : X.N[j]? = some y:=by rfl)
  (hx : X.env.scope.names.lookup x = some .local:=by rfl) (hy : X.env.scope.names.lookup y = some .local:=by rfl)
  (hw : swappedStores [.Tuple [.Name x px, .Name y py] kt pt] (.Tuple [a, b] k2 pt2) X.env = pure (some [x, y]):=by rfl)
  (hs : swapsWithSole [.Tuple [.Name x px, .Name y py] kt pt] (.Tuple [a, b] k2 pt2) pos.line X.env = pure false:=by rfl) :
  JS T X Wx (.Assign [.Tuple [.Name x px, .Name y py] kt pt] (.Tuple [a, b] k2 pt2) pos) (sPar i j ga):=by
 obtain ⟨t, h1, s1⟩:=ha
 refine ⟨_, ps_par hc hN hi hj hij hx hy h1 hw hs, fun G F A S H σ ρ D hw hs hp => ?_⟩
 refine s1 G F A S H σ ρ _ hw hs (PostS.then hs hp fun ws S' F' A' H' v e p w' r q => ?_)
 cases r with
 | nil => exact q.elim
 | cons r1 rr =>
  cases rr with
  | nil => exact q.elim
  | cons r2 rr =>
   cases rr with
   | nil => exact ⟨_, _, rfl, q F' A' H' _ (Evl.Ex.refl _) (Pre.refl _) w' (((hs.mono e p).set i r1).set j r2)⟩
   | cons _ _ => exact q.elim

abbrev FG:=W → Rho → Sto → Option (Rho × Sto)
structure JG (T : Tb) (X : Cx) (tg : Expr) (g : FG) : Prop where
 ex : ∃ t, PG X tg t ∧ ∀ G F A S H σ ρ w v Q, Wd (T.g G) X.K F A S H → Sl X.K F A ρ σ → RepW X.K F A w v → (∃ ρ' S', g w ρ S = some (ρ', S') ∧ ∀ F' A' σ' H', Ex F F' → Pre A A' → Wd (T.g G) X.K F' A' S' H' → Sl X.K F' A' ρ' σ' → Q σ' H') → t v σ H Q
structure JGs (T : Tb) (X : Cx) (tgs : List Expr) (g : List D → Rho → Option Rho) : Prop where
 ex : ∃ t, PGs X tgs t ∧ ∀ G F A S H σ ρ ds vs Q, Wd (T.g G) X.K F A S H → Sl X.K F A ρ σ → Reps X.K F ds vs → (∃ ρ', g ds ρ = some ρ' ∧ ∀ σ', Sl X.K F A ρ' σ' → Q σ' H) → t vs σ H Q
def oName (i : Nat) : FG:=fun w ρ S => some (ρ.set i (some w), S)
theorem jg_name {i : Nat} {x : Str} (hN : X.N.Nodup) (hi : X.N[i]? = some x:=by rfl) (hx : Loc X.env.scope x:=by first | exact Or.inl rfl | exact Or.inr rfl) (hf : X.fn x = true ∨ X.env.scope.names.lookup x = some .local:=by first | exact .inl rfl | exact .inr rfl | assumption) : JG T X (.Name x pos) (oName i):=by
 refine ⟨_, pg_name hN hi hx hf, fun G F A S H σ ρ w v Q hw hs r ⟨ρ', S', h1, q⟩ => ?_⟩
 cases h1
 exact q _ _ _ _ (Evl.Ex.refl _) (Pre.refl _) hw (hs.set i r)
def onNil : List D → Rho → Option Rho:=fun ds ρ => match ds with
 | [] => some ρ
 | _ => none
def onCons (g : FG) (gs : List D → Rho → Option Rho) : List D → Rho → Option Rho:=fun ds ρ => match ds with
 | d :: r => (g (.dat d) ρ []).bind fun p => gs r p.1
 | _ => none
theorem jgs_nil : JGs T X [] onNil:=by
 refine ⟨_, pgs_nil, fun G F A S H σ ρ ds vs Q hw hs r ⟨ρ', h1, q⟩ => ?_⟩
 cases r with
 | nil =>
  cases h1
  exact ⟨rfl, q _ hs⟩
 | cons _ _ => cases h1
theorem jgs_cons {i : Nat} {x : Str} {tgs : List Expr} {gs : List D → Rho → Option Rho} (hN : X.N.Nodup) (h2 : JGs T X tgs gs) (hi : X.N[i]? = some x:=by rfl) (hx : Loc X.env.scope x:=by first | exact Or.inl rfl | exact Or.inr rfl)
  (hf : X.fn x = true ∨ X.env.scope.names.lookup x = some .local:=by first | exact .inl rfl | exact .inr rfl | assumption)
  (hst : (assignEach (.Name x pos :: tgs) X.env).map (·.2) = assign (.Name x pos) X.env :: (assignEach tgs X.env).map (·.2):=by rfl) : JGs T X (.Name x pos :: tgs) (onCons (oName i) gs):=by
 obtain ⟨u, h2, s2⟩:=h2
 refine ⟨_, pgs_cons (pg_name hN hi hx hf) h2 hst, fun G F A S H σ ρ ds vs Q hw hs r ⟨ρ', h1, q⟩ => ?_⟩
 cases r with
 | nil => cases h1
 | cons r rr => exact ⟨_, _, rfl, s2 G F A S H _ _ _ _ Q hw (hs.set (w:=.dat _) i r) rr ⟨ρ', h1, q⟩⟩
def oTup (n : Nat) (gs : List D → Rho → Option Rho) : FG:=fun w ρ S => match rd S w with
 | some (.tup _ ds) => ifO (decide (ds.length = n)) ((gs ds ρ).map fun ρ' => (ρ', S))
 | _ => none
theorem jg_tup {tgs : List Expr} {k : Nat} {gs : List D → Rho → Option Rho} {n : Nat} (hc : X.calm = true) (h : JGs T X tgs gs) (hn : (assignEach tgs X.env).length = n:=by rfl) (hst : (assignEach tgs X.env).findIdx? (·.1) = none:=by rfl) :
  JG T X (.Tuple tgs k pos) (oTup n gs):=by
 obtain ⟨t, h1, s1⟩:=h
 refine ⟨_, pg_tup hc h1 hn hst, fun G F A S H σ ρ w v Q hw hs r ⟨ρ', S', h2, q⟩ => ?_⟩
 unfold oTup at h2
 split at h2
 ·rename_i ds e
  obtain ⟨c, h2⟩:=ifO_some h2
  cases h3 : gs ds ρ with
  | none => rw [h3] at h2; cases h2
  | some ρ2 =>
   rw [h3] at h2
   cases h2
   have rr:=rd_rep hw r e
   cases rr with
   | flat z => cases z
   | tup f1 f2 f3 => exact ⟨_, _, rfl, f2, by rw [← f3.length]; exact of_decide_eq_true c, s1 G F A S H σ ρ ds _ Q hw hs f3 ⟨ρ', h3, fun σ' s' => q F A σ' H (Evl.Ex.refl _) (Pre.refl _) hw s'⟩⟩
 ·cases h2
def sAsg (f : FE) (g : FG) : FS:=fun ρ S => (f ρ S).then ρ fun w S1 => match g w ρ S1 with
 | some (ρ', S2) => .nx ρ' S2
 | none => .bad
theorem js_asg {tg : Expr} {gg : FG} (he : JE T X Wx e f) (hg : JG T X tg gg) (hs : swapsWithSole [tg] e pos.line X.env = pure false:=by rfl) (hw : swappedStores [tg] e X.env = pure none:=by rfl)
  (h1 : (assignEach [tg] X.env).map (·.2) = [assign tg X.env]:=by rfl) : JS T X Wx (.Assign [tg] e pos) (sAsg f gg):=by
 obtain ⟨t, g1, s1⟩:=he
 obtain ⟨u, g2, s2⟩:=hg
 refine ⟨_, ps_asg g1 g2 hs hw h1, fun G F A S H σ ρ D hw hs hp => ?_⟩
 refine s1 G F A S H σ ρ _ hw hs (PostS.then hs hp fun w S' F' A' H' v e p w' r q => ?_)
 cases h3 : gg w ρ S' with
 | none => rw [h3] at q; exact q.elim
 | some z =>
  rw [h3] at q
  exact s2 G F' A' S' H' σ ρ w v _ w' (hs.mono e p) r ⟨z.1, z.2, h3, fun F2 A2 σ' H2 e2 p2 w2 s2 => q F2 A2 H2 σ' e2 p2 w2 s2⟩
end

def retV (c : Bool) (n : Nat) (w : W) (S : Sto) : R W:=match w with
 | .loc k j => match decide (k < n) with
  | true => .ok (.loc k j) (S.take n)
  | false => match j with
   | 0 => match S[k]? with
    | some (.lst xs) => (match c with
     | true => .ok (.loc n 0) (S.take n ++ [.lst xs])
     | false => .ok (.dat (.list xs)) (S.take n))
    | some (.frz d) => .ok (.dat d) (S.take n)
    | some (.dT ps) => .ok (.dat (.dT ps)) (S.take n)
    | some (.dK ps) => .ok (.dat (.dK ps)) (S.take n)
    | some (.ll xss) => .ok (.dat (.list (xss.map D.list))) (S.take n)
    | some (.ins cl fs) => .ok (.loc n 0) (S.take n ++ [.ins cl fs])
    | some (.old _) => .bad
    | none => .bad
   | _ => .bad
 | w => .ok w (S.take n)
def Out.fn (c : Bool) (n : Nat) : Out → R W
 | .nx _ S => .ok (.dat .none) (S.take n)
 | .rt w S => retV c n w S
 | .exc x _ S => .exc x (S.take n)
 | _ => .bad
def runF (m : Nat) (c : Bool) (fb : FS) : List W → Sto → R W:=fun ws S => (fb (ws.map some ++ List.replicate (m - ws.length) none) S).fn c S.length
def spV (T : Tb) (K : PySem.W.Frag) (n : Nat) (f : List W → Sto → R W) : Sp:=fun vs H Q E => ∃ G F A S ws, ws.length = n ∧ Wd (T.g G) K F A S H ∧ RepWs K F A ws vs ∧ Post (T.g G) K (RepW K) F A (f ws S) Q E
section
variable {T : Tb} {K : PySem.W.Frag}
theorem rws_len {F : Hp} {A : List (List Addr)} {ws : List W} {vs : List V} (h : RepWs K F A ws vs) : ws.length = vs.length:=Paired.length h
theorem sl_start {F : Hp} {A : List (List Addr)} {N : List Str} : ∀ {ws : List W} {vs : List V}, RepWs K F A ws vs → Sl K F A (ws.map some ++ List.replicate (N.length - ws.length) none) (L2.start N vs):=by
 intro ws vs h
 have hl:=rws_len h
 refine ⟨by unfold L2.start; simp [hl], fun i w q => ?_⟩
 by_cases hi : i < ws.length
 ·rw [List.getElem?_append_left (by simpa using hi), List.getElem?_map] at q
  cases h1 : ws[i]? with
  | none => rw [h1] at q; cases q
  | some w' =>
   rw [h1] at q
   cases q
   obtain ⟨v, h2, h3⟩:=prd_get h h1
   refine ⟨v, ?_, h3⟩
   unfold L2.start
   rw [List.getElem?_append_left (by rw [List.length_map, ← hl]; exact hi), List.getElem?_map, h2]
   rfl
 ·rw [List.getElem?_append_right (by simpa using hi)] at q
  rw [List.getElem?_replicate] at q
  split at q <;> cases q
theorem Pre.cutW {A A' : List (List Addr)} (h : Pre A A') : A'.take A.length = A:=h.cut rfl
theorem mem_take {A' : List (List Addr)} {k n : Nat} {as : List Addr} {a : Addr} (nd : A'.flatten.Nodup) (h : A'[k]? = some as) (m : a ∈ as) (hk : ¬ k < n) : a ∉ (A'.take n).flatten:=fun z => by
 obtain ⟨bs, h1, h2⟩:=List.mem_flatten.mp z
 obtain ⟨j, hj, e⟩:=List.getElem_of_mem h1
 have h3 : (A'.take n)[j]? = some bs:=by rw [List.getElem?_eq_getElem hj, e]
 rw [List.getElem?_take] at h3
 split at h3
 ·rename_i hjn
  have:=nodup_ix_flat nd h3 h h2 m
  omega
 ·cases h3


def OwnP (K : PySem.W.Frag) (F H : Hp) (xs : List D) (b : Addr) : Prop:=F b = none ∧ ∃ vs, H b = some (.lst vs) ∧ Reps K F xs vs
theorem own_shift {F H : Hp} {a : Addr} {o : HO} (hF : F a = none) : ∀ {xss : List (List D)} {bs : List Addr}, a ∉ bs → Paired (OwnP K F H) xss bs → Paired (OwnP K (upd F a o) H) xss bs
 | _, _, _, .nil => .nil
 | _, b :: bs, h, .cons q r => by
  obtain ⟨q1, vs, q2, q3⟩:=q
  refine .cons ⟨?_, vs, q2, q3.mono (Evl.Ex.new hF)⟩ (own_shift hF (fun z => h (List.mem_cons_of_mem _ z)) r)
  rw [upd_ne]
  ·exact q1
  ·rintro rfl
   exact h (by simp)
theorem frz_ll {A : List (List Addr)} {S : Sto} {H : Hp} : ∀ {xss : List (List D)} {bs : List Addr} {F : Hp}, Wd T K F A S H → (∀ b ∈ bs, T.G b = none ∧ b ∉ A.flatten) → bs.Nodup → Paired (OwnP K F H) xss bs →
  ∃ F', Ex F F' ∧ Wd T K F' A S H ∧ Reps K F' (xss.map D.list) (bs.map V.ref)
 | _, _, F, hw, _, _, .nil => ⟨F, Evl.Ex.refl _, hw, .nil⟩
 | _, b :: bs, F, hw, hA, hn, .cons q r => by
  obtain ⟨q1, vs, q2, q3⟩:=q
  obtain ⟨n1, n2⟩:=List.nodup_cons.mp hn
  have e1 : Ex F (upd F b (.lst vs)):=Evl.Ex.new q1
  obtain ⟨F', e2, w2, r2⟩:=frz_ll (hw.adopt q2 q1 (hA b (by simp)).1 (hA b (by simp)).2) (fun c hc => hA c (List.mem_cons_of_mem _ hc)) n2 (own_shift q1 n1 r)
  exact ⟨F', e1.trans e2, w2, .cons (.lst (e2 _ _ upd_same) (q3.mono (e1.trans e2))) r2⟩
theorem Wd.adoptM {F H : Hp} {A : List (List Addr)} {S : Sto} {as : List Addr} {c : C} (hw : Wd T K F A S H) (hn : as.Nodup) (hA : ∀ b ∈ as, b ∉ A.flatten) (hH : ∀ b ∈ as, (H b).isSome) (hG : ∀ b ∈ as, T.G b = none) (hc : COk T K F H as c) (hT : ∀ b ∈ as, ∀ ps, H b ≠ some (.tbl ps)) : Wd T K F (A ++ [as]) (S ++ [c]) H:=by
 refine ⟨hw.sub, by rw [List.length_append, List.length_append, hw.len]; rfl, fun k as' c' h1 h2 => ?_, ?_, fun a ha => ?_, hw.gh, fun a ha => ?_, hw.fg, ⟨hw.tb.tabs, hw.tb.f, hw.tb.g, fun q hq m => by
  rw [List.flatten_append, List.flatten_singleton] at m
  rcases List.mem_append.mp m with m | m
  ·exact hw.tb.a q hq m
  ·obtain ⟨ps, z, _⟩:=hw.tb.tabs q hq
   exact hT _ m ps z, hw.tb.nf, hw.tb.ng, fun b hb => by
  rw [List.flatten_append, List.flatten_singleton] at hb
  rcases List.mem_append.mp hb with m | m
  ·exact hw.tb.na b m
  ·exact hT b m⟩⟩
 ·by_cases hk : k < A.length
  ·rw [List.getElem?_append_left hk] at h1
   rw [List.getElem?_append_left (by rw [← hw.len]; exact hk)] at h2
   exact hw.ok k as' c' h1 h2
  ·have hk' : k = A.length:=by
    have:=(List.getElem?_eq_some_iff.mp h1).1
    rw [List.length_append, List.length_singleton] at this
    omega
   subst hk'
   rw [List.getElem?_concat_length] at h1
   rw [hw.len, List.getElem?_concat_length] at h2
   cases Option.some.inj h1
   cases Option.some.inj h2
   exact hc
 ·rw [List.flatten_append, List.flatten_singleton, List.nodup_append]
  refine ⟨hw.nod, hn, fun a ha b hb z => ?_⟩
  subst z
  exact hA a hb ha
 ·rw [List.flatten_append, List.flatten_singleton] at ha
  rcases List.mem_append.mp ha with ha | ha
  ·exact hw.there a ha
  ·exact hH a ha
 ·rw [List.flatten_append, List.flatten_singleton] at ha
  rcases List.mem_append.mp ha with ha | ha
  ·exact hw.gd a ha
  ·exact hG a ha
theorem nodup_mem {A : List (List Addr)} {k : Nat} {as : List Addr} (nd : A.flatten.Nodup) (h : A[k]? = some as) : as.Nodup:=by
 obtain ⟨l1, l2, rfl⟩:=List.append_of_mem (List.mem_of_getElem? h)
 rw [List.flatten_append, List.flatten_cons, List.nodup_append] at nd
 exact (List.nodup_append.mp nd.2.1).1
theorem retV_ok {F F' : Hp} {A A' : List (List Addr)} {S' : Sto} {H' : Hp} {w : W} {v : V} {c : Bool} {Q : VK} {E : XK} (hp : Pre A A') (e : Ex F F') (hw : Wd T K F' A' S' H') (r : RepW K F' A' w v) (h : Post T K (RepW K) F A (retV c A.length w S') Q E) : Q v H':=by
 have cut:=hp.cutW
 have wc:=hw.cut A.length
 rw [cut] at wc
 cases w with
 | dat d => exact h F' A H' v e (Pre.refl _) wc r
 | scr ns => exact h F' A H' v e (Pre.refl _) wc r
 | exn x => exact h F' A H' v e (Pre.refl _) wc r
 | xl x => exact h F' A H' v e (Pre.refl _) wc r
 | loc k j =>
  obtain ⟨as, a, h1, h2, rfl⟩:=r
  unfold retV at h
  cases hk : decide (k < A.length) with
  | true =>
   simp only [hk] at h
   refine h F' A H' _ e (Pre.refl _) wc ⟨as, a, ?_, h2, rfl⟩
   have hk:=of_decide_eq_true hk
   have:=List.getElem?_take_of_lt (l:=A') hk
   rw [cut] at this
   rw [this]
   exact h1
  | false =>
   simp only [hk] at h
   have hk:=of_decide_eq_false hk
   cases j with
   | succ j => exact h.elim
   | zero =>
    cases q : S'[k]? with
    | none => simp only [q] at h; exact h.elim
    | some c' =>
     have ck:=hw.ok k as c' h1 q
     have gA : ∀ b ∈ as, T.G b = none:=fun b hb => hw.gd b (mem_flat h1 hb)
     have nA : ∀ b ∈ as, b ∉ A.flatten:=fun b hb => by
      have:=mem_take hw.nod h1 hb hk
      rwa [cut] at this
     have nd:=nodup_mem hw.nod h1
     simp only [q] at h
     cases c' with
     | lst xs =>
      obtain ⟨b, vs, rfl, c1, c2, c3⟩:=ck
      cases Option.some.inj h2
      have nA:=nA a (by simp)
      cases c with
      | true =>
       refine h F' (A ++ [[a]]) H' _ e (Pre.push _ _) (wc.adoptC c2 (hw.gd a (mem_flat h1 (by simp))) nA ⟨a, vs, rfl, c1, c2, c3⟩) ⟨[a], a, by rw [List.getElem?_concat_length], rfl, rfl⟩
      | false => exact h _ A H' _ (e.trans (Evl.Ex.new c1)) (Pre.refl _) (wc.adopt c2 c1 (gA a (by simp)) nA) (.lst upd_same (c3.mono (Evl.Ex.new c1)))
     | frz d =>
      obtain ⟨b, r, rfl, c1⟩:=ck
      cases Option.some.inj h2
      exact h F' A H' _ e (Pre.refl _) wc c1
     | dT ps =>
      obtain ⟨b, vs, rfl, c1, c2, c3⟩:=ck
      cases Option.some.inj h2
      exact h _ A H' _ (e.trans (Evl.Ex.new c1)) (Pre.refl _) (wc.adopt c2 c1 (gA a (by simp)) (nA a (by simp))) (.dT upd_same (c3.mono (Evl.Ex.new c1)))
     | dK ps =>
      obtain ⟨b, vs, rfl, c1, c2, c3⟩:=ck
      cases Option.some.inj h2
      exact h _ A H' _ (e.trans (Evl.Ex.new c1)) (Pre.refl _) (wc.adopt c2 c1 (gA a (by simp)) (nA a (by simp))) (.dK upd_same (c3.mono (Evl.Ex.new c1)))
     | ll xss =>
      obtain ⟨b, bs, rfl, c1, c2, c3⟩:=ck
      cases Option.some.inj h2
      obtain ⟨n1, n2⟩:=List.nodup_cons.mp nd
      have e1 : Ex F' (upd F' a (.lst (bs.map V.ref))):=Evl.Ex.new c1
      obtain ⟨F2, e2, w2, r2⟩:=frz_ll (wc.adopt c2 c1 (gA a (by simp)) (nA a (by simp))) (fun b' hb' => ⟨gA b' (List.mem_cons_of_mem _ hb'), nA b' (List.mem_cons_of_mem _ hb')⟩) n2 (own_shift (H:=H') c1 n1 c3)
      exact h F2 A H' _ (e.trans (e1.trans e2)) (Pre.refl _) w2 (.lst (e2 _ _ upd_same) r2)
     | old _ => exact h.elim
     | ins cl fs =>
      exact h F' (A ++ [as]) H' _ e (Pre.push _ _) (wc.adoptM nd nA (fun b hb => hw.there b (mem_flat h1 hb)) (fun b hb => hw.gd b (mem_flat h1 hb)) ck fun b hb => hw.tb.na b (mem_flat h1 hb)) ⟨as, a, by rw [List.getElem?_concat_length], h2, rfl⟩
theorem semF {t : TS} {g : FS} {E : XK} {c : Bool} {N : List Str} {n : Nat} (hs : SemS T K (fun cls d _ H => E cls d H) t g) {vs : List V} {H : Hp} {Q : VK} (h : spV T K n (runF N.length c g) vs H Q E) : t { nx:=fun _ H' => Q .non H', rt:=Q } (L2.start N vs) H:=by
 obtain ⟨G, F, A, S, ws, hn, hw, hr, hp⟩:=h
 refine hs G F A S H _ (ws.map some ++ List.replicate (N.length - ws.length) none) _ hw (sl_start hr) ?_
 unfold runF at hp
 rw [← hw.len] at hp
 cases q : g (ws.map some ++ List.replicate (N.length - ws.length) none) S with
 | nx ρ S1 =>
  rw [q] at hp
  intro F1 A1 H1 σ1 e1 p1 w1 _
  have wc:=w1.cut A.length
  rw [p1.cutW] at wc
  exact hp F1 A H1 .non e1 (Pre.refl _) wc .non
 | rt w S1 =>
  rw [q] at hp
  intro F1 A1 H1 v e1 p1 w1 r1
  exact retV_ok p1 e1 w1 r1 hp
 | exc x ρ S1 =>
  rw [q] at hp
  intro F1 A1 H1 σ1 cls d e1 p1 w1 _ rx
  have wc:=w1.cut A.length
  rw [p1.cutW] at wc
  exact hp F1 A H1 cls d e1 (Pre.refl _) wc rx
 | bk ρ S1 => rw [q] at hp; exact hp.elim
 | ct ρ S1 => rw [q] at hp; exact hp.elim
 | bad => rw [q] at hp; exact hp.elim
end
section
variable {T : Tb} {K : PySem.W.Frag} {P : Program} {w : World} {mg : Str → Option Value} {base : Heap} {x qual : Str} {params : Arguments} {body : List Stmt} {scope : Scope} {dvs : List V} {kws : List (Str × V)} {f : Addr} {fd : FuncData}
end
def fApp (n : Nat) (g : List W → Sto → R W) (f : FA) : FE:=fun ρ S => (f ρ S).bind fun ws S1 => match decide (ws.length = n) with
 | true => g ws S1
 | false => .bad
section
variable {T : Tb} {X : Cx} {Wx : WX} {k n : Nat} {f : Addr} {fd : FuncData} {ps : List Str} {g : List W → Sto → R W} {ga : FA} {x : Str} {p pos : Pos} {e : Expr} {es : List Expr}
theorem semE_app {K : PySem.W.Frag} {t : TA} (h : SemA T K Wx t ga) : SemE T K Wx (tCallS (spV T K n g) (WE Wx) t) (fApp n g ga):=by
 intro G F A S H σ ρ Q hw hs hp
 refine h G F A S H σ ρ _ hw hs (hp.bind fun ws S1 F1 A1 H1 v1 e1 p1 w1 r1 hp1 => ?_)
 cases hn : decide (ws.length = n) with
 | false => rw [hn] at hp1; exact hp1.elim
 | true =>
  rw [hn] at hp1
  exact ⟨G, F1, A1, S1, ws, of_decide_eq_true hn, w1, r1, hp1⟩
end
end Vz
namespace Vz
open PySem PySem.Spec PyProof.Rows L2
section
variable {T : Tb} {X : Cx} {Wx : WX} {e a b c : Expr} {f : FE} {tc : FT} {pos : Pos} {st : Stmt} {g : FS} {tg iter : Expr}
inductive Wk where
 | ds (xs : List D)
 | cell (k j : Nat)
 | dyn (f : Sto → Option (List D))
def Wk.ls : Wk → Sto → Option (List D)
 | .ds xs, _ => some xs
 | .cell k j, S => match rd S (.loc k j) with
  | some (.list xs) => some xs
  | _ => none
 | .dyn f, S => f S
abbrev FI:=Rho → Sto → R Wk
def relI (T : Tb) (K : PySem.W.Frag) (F : Hp) (A : List (List Addr)) (wk : Wk) (J : It) : Prop :=
 ∀ G F' A' S' H', Ex F F' → Pre A A' → Wd (T.g G) K F' A' S' H' → ∀ ds, wk.ls S' = some ds → ∀ (i : Nat), (∀ d, ds[i]? = some d → J.go i H' ∧ ∀ x H'', J.yld i H' x H'' → ∃ F'', Ex F' F'' ∧ Wd (T.g G) K F'' A' S' H'' ∧ Rep K F'' d x) ∧ (ds.length = i → J.stop i H')
structure JI (T : Tb) (X : Cx) (Wx : WX) (tg iter : Expr) (fi : FI) : Prop where
 ex : ∃ wi, PI X tg iter wi ∧ ∀ G F A S H σ ρ Q, Wd (T.g G) X.K F A S H → Sl X.K F A ρ σ → Post (T.g G) X.K (relI (T.g G) X.K) F A (fi ρ S) Q (fun c d H' => Wx c d σ H') → wi σ H Q
def frd (S : Sto) : W → Option D
 | .dat d => some d
 | .loc k 0 => match S[k]? with
  | some (.frz d) => some d
  | _ => none
 | _ => none
def seqOf : D → Option (List D)
 | .list ds => some ds
 | .tup _ ds => some ds
 | _ => none
theorem frd_rep {K : PySem.W.Frag} {F H : Hp} {A : List (List Addr)} {S : Sto} {w : W} {v : V} {d : D} (hw : Wd T K F A S H) (r : RepW K F A w v) (h : frd S w = some d) : Rep K F d v:=by
 cases w with
 | dat d' => cases h; exact r
 | scr ns => cases h
 | exn x => cases h
 | xl x => cases h
 | loc k j =>
  cases j with
  | succ j => cases h
  | zero =>
   obtain ⟨as, a, h1, h2, rfl⟩:=r
   unfold frd at h
   cases q : S[k]? with
   | none => simp only [q] at h; cases h
   | some c =>
    simp only [q] at h
    cases c with
    | frz d' =>
     cases h
     obtain ⟨b, r, rfl, hr⟩:=hw.ok k as _ h1 q
     cases Option.some.inj h2
     exact hr
    | _ => cases h
def walk (S : Sto) (w : W) : Option Wk:=match (frd S w).bind seqOf with
 | some ds => some (.ds ds)
 | none => match w with
  | .loc k j => (Wk.ls (.cell k j) S).map fun _ => .cell k j
  | _ => none
def iSeq (f : FE) : FI:=fun ρ S => (f ρ S).bind fun w S1 => R.lift (walk S1 w) S1
theorem PI.run' {l : Expr} {tl : TE} (hl : PE X l tl) : PI X tg l (fun σ H R => tl σ H fun x H1 => (∃ a, x = .ref a ∧ (∃ xs, SqL X.K H1 a xs) ∧ R (Itl X.K a) H1) ∨ ∃ a, x = .ref a ∧ (∃ xs, SqT X.K H1 a xs) ∧ R (Itt X.K a) H1):=by
 refine ⟨fun pins s σ H R I h => ?_⟩
 refine thn (hl.run pins s σ H _ I h) fun v s1 ⟨x, H1, I1, r1, q1⟩ => ?_
 rcases q1 with ⟨a, e, ⟨xs, hq⟩, q⟩ | ⟨a, e, ⟨xs, hq⟩, q⟩
 ·subst e
  cases r1
  obtain ⟨its, rv, p, hz⟩:=I1.list hq
  refine wpAny_pyIter_list p.isList ?_
  refine ⟨s1.heap.objs.size, [s1.heap.objs.size], _, _, H1, rfl, I1.kept (t':=s1.toks) fun b o e => Heap.get?_push_of_some _ e, turn_list a _, ⟨_, Heap.get?_push_size _ rfl, rfl, rfl⟩, fun b hb => ?_, q⟩
  have e : b = s1.heap.objs.size:=by simpa using hb
  subst e
  exact I1.fpOk (Nat.le_refl _) (I1.hok.fresh (Nat.le_refl _))
 ·subst e
  cases r1
  obtain ⟨its, rv, p, hz⟩:=I1.tuple hq
  refine wpAny_pyIter_tuple (show s1.heap.IsTuple a its.toArray from p) ?_
  refine ⟨s1.heap.objs.size, [s1.heap.objs.size], _, _, H1, rfl, I1.kept (t':=s1.toks) fun b o e => Heap.get?_push_of_some _ e, turn_tuple a _, ⟨_, Heap.get?_push_size _ rfl, rfl, rfl⟩, fun b hb => ?_, q⟩
  have e : b = s1.heap.objs.size:=by simpa using hb
  subst e
  exact I1.fpOk (Nat.le_refl _) (I1.hok.fresh (Nat.le_refl _))
theorem reps_at {K : PySem.W.Frag} {F : Hp} {ds : List D} {vs : List V} (r : Reps K F ds vs) {i : Nat} (h : ds.length ≤ i) : vs.length ≤ i:=by rw [← r.length]; exact h
theorem relI_list {K : PySem.W.Frag} {F : Hp} {A : List (List Addr)} {a : Addr} {vs : List V} {ds : List D} (h : F a = some (.lst vs)) (r : Reps K F ds vs) : relI T K F A (.ds ds) (Itl K a):=by
 intro G F' A' S' H' e p w ds' z i
 cases z
 have hH : SqL K H' a vs:=.of (w.sub _ _ (e _ _ h))
 refine ⟨fun d hd => ?_, fun hi => ⟨vs, hH, reps_at r (Nat.le_of_eq hi)⟩⟩
 obtain ⟨v, h1, h2⟩:=r.get hd
 refine ⟨⟨vs, v, hH, h1⟩, fun x H'' ⟨q1, q2⟩ => ?_⟩
 subst q1
 have:=q2 vs hH
 rw [h1] at this
 cases this
 exact ⟨F', Evl.Ex.refl _, w, h2.mono e⟩
theorem relI_tup {K : PySem.W.Frag} {F : Hp} {A : List (List Addr)} {a : Addr} {vs : List V} {ds : List D} (h : SqT K F a vs) (r : Reps K F ds vs) : relI T K F A (.ds ds) (Itt K a):=by
 intro G F' A' S' H' e p w ds' z i
 cases z
 have hH : SqT K H' a vs:=sqt_mono w.sub (sqt_mono e h)
 refine ⟨fun d hd => ?_, fun hi => ⟨vs, hH, reps_at r (Nat.le_of_eq hi)⟩⟩
 obtain ⟨v, h1, h2⟩:=r.get hd
 refine ⟨⟨vs, v, hH, h1⟩, fun x H'' ⟨q1, q2⟩ => ?_⟩
 subst q1
 have:=q2 vs hH
 rw [h1] at this
 cases this
 exact ⟨F', Evl.Ex.refl _, w, h2.mono e⟩
theorem seq_some {o : Option D} {ds : List D} (h : o.bind seqOf = some ds) : o = some (.list ds) ∨ ∃ f, o = some (.tup f ds):=by
 cases o with
 | none => cases h
 | some d =>
  cases d with
  | list xs => cases h; exact .inl rfl
  | tup f xs => cases h; exact .inr ⟨f, rfl⟩
  | _ => cases h
theorem relI_cell {K : PySem.W.Frag} {F : Hp} {A : List (List Addr)} {k j : Nat} {as : List Addr} {a : Addr} (h1 : A[k]? = some as) (h2 : as[j]? = some a) : relI T K F A (.cell k j) (Itl K a):=by
 intro G F' A' S' H' e p w ds z i
 have h : rd S' (.loc k j) = some (.list ds):=by
  simp only [Wk.ls] at z
  split at z
  ·rename_i xs q
   cases z
   exact q
  ·cases z
 have r:=rd_rep (w:=.loc k j) (v:=.ref a) w ⟨as, a, p _ _ h1, h2, rfl⟩ h
 cases r with
 | flat q => cases q
 | lst h3 r3 =>
  have hH : SqL K H' a _:=.of h3
  refine ⟨fun d hd => ?_, fun hi => ⟨_, hH, reps_at r3 (Nat.le_of_eq hi)⟩⟩
  obtain ⟨v, q1, q2⟩:=r3.get hd
  refine ⟨⟨_, v, hH, q1⟩, fun x H'' ⟨y1, y2⟩ => ?_⟩
  subst y1
  have:=y2 _ hH
  rw [q1] at this
  cases this
  exact ⟨F', Evl.Ex.refl _, w, q2⟩
theorem ji_seq (h : JE T X Wx e f) : JI T X Wx tg e (iSeq f):=by
 obtain ⟨t, h1, s1⟩:=h
 refine ⟨_, PI.run' h1, fun G F A S H σ ρ Q hw hs hp => ?_⟩
 refine s1 G F A S H σ ρ _ hw hs (hp.bind fun w S1 F1 A1 H1 v e1 p1 w1 r1 hp1 => ?_)
 obtain ⟨wk, h2, q⟩:=hp1.lift
 unfold walk at h2
 split at h2
 ·rename_i ds h2'
  cases h2
  rcases seq_some h2' with h3 | ⟨fl, h3⟩
  ·have r:=frd_rep w1 r1 h3
   cases r with
   | lst h4 r4 => exact .inl ⟨_, rfl, ⟨_, .of (w1.sub _ _ h4)⟩, q F1 A1 H1 _ (Evl.Ex.refl _) (Pre.refl _) w1 (relI_list h4 r4)⟩
  ·have r:=frd_rep w1 r1 h3
   cases r with
   | tup h4 r4 => exact .inr ⟨_, rfl, ⟨_, sqt_mono w1.sub h4.sq⟩, q F1 A1 H1 _ (Evl.Ex.refl _) (Pre.refl _) w1 (relI_tup h4.sq r4)⟩
 ·split at h2
  ·rename_i k j _ 
   cases h3 : Wk.ls (.cell k j) S1 with
   | none => rw [h3] at h2; cases h2
   | some ds =>
    rw [h3] at h2
    cases h2
    have h : rd S1 (.loc k j) = some (.list ds):=by
     simp only [Wk.ls] at h3
     split at h3
     ·rename_i xs q
      cases h3
      exact q
     ·cases h3
    have r:=rd_rep w1 r1 h
    obtain ⟨as, a, g1, g2, rfl⟩:=r1
    cases r with
    | flat z => cases z
    | lst h4 r4 => exact .inl ⟨_, rfl, ⟨_, .of h4⟩, q F1 A1 H1 _ (Evl.Ex.refl _) (Pre.refl _) w1 (relI_cell g1 g2)⟩
  ·cases h2
def rng (lo : Int) (n : Nat) : List D:=(List.range n).map fun (i : Nat) => .int (lo + (i : Int))
theorem relI_rng {K : PySem.W.Frag} {F : Hp} {A : List (List Addr)} (lo : Int) (n : Nat) : relI T K F A (.ds (rng lo n)) (Itr lo n):=by
 intro G F' A' S' H' e p w ds' z i
 cases z
 refine ⟨fun d hd => ?_, fun hi => by unfold rng at hi; rw [List.length_map, List.length_range] at hi; exact Nat.le_of_eq hi⟩
 unfold rng at hd
 rw [List.getElem?_map] at hd
 have hi : i < n:=by
  by_cases hi : i < n
  ·exact hi
  ·rw [List.getElem?_eq_none (by rw [List.length_range]; omega)] at hd
   cases hd
 rw [List.getElem?_range hi] at hd
 cases hd
 refine ⟨hi, fun x H'' ⟨q1, q2⟩ => ?_⟩
 subst q1 q2
 exact ⟨F', Evl.Ex.refl _, w, .int _⟩
def rng1 : List D → Option (List D)
 | [.int j] => ifO (decide (j.natAbs ≤ 1000000)) (some (rng 0 j.toNat))
 | _ => none
def rng2 : List D → Option (List D)
 | [.int i, .int j] => ifO (decide (i.natAbs ≤ 1000000) && decide (j.natAbs ≤ 1000000)) (some (rng i (j - i).toNat))
 | _ => none
variable {ga : FA}
def iArgs (g : List D → Option (List D)) (f : FA) : FI:=fun ρ S => (f ρ S).bind fun ws S1 => R.lift (((dats ws).bind g).map Wk.ds) S1
theorem ji_range1 {p : Pos} (hm : X.mg "range" = none) (ha : JA T X Wx [a] ga) (hg : Gl X "range":=by rfl) (hs : starEach [a] X.env = [(false, eval a X.env)]:=by rfl) : JI T X Wx tg (.Call (.Name "range" p) [a] [] pos) (iArgs rng1 ga):=by
 obtain ⟨t, h1, s1⟩:=ha
 refine ⟨_, pi_range1 hg hm h1 hs, fun G F A S H σ ρ Q hw hs hp => ?_⟩
 refine s1 G F A S H σ ρ _ hw hs (hp.bind fun ws S1 F1 A1 H1 v e1 p1 w1 r1 hp1 => ?_)
 obtain ⟨wk, h2, q⟩:=hp1.lift
 cases h3 : dats ws with
 | none => rw [h3] at h2; cases h2
 | some es =>
  rw [h3, Option.bind_some] at h2
  have rr:=dats_rep r1 h3
  cases h4 : rng1 es with
  | none => rw [h4] at h2; cases h2
  | some ds =>
  rw [h4] at h2
  cases h2
  have h2:=h4
  unfold rng1 at h2
  split at h2
  ·rename_i j
   obtain ⟨c, h2⟩:=ifO_some h2
   cases h2
   have c1:=of_decide_eq_true c
   obtain ⟨u, rfl, ru⟩:=rr.one
   cases ru
   exact ⟨j, rfl, by omega, by omega, q F1 A1 H1 _ (Evl.Ex.refl _) (Pre.refl _) w1 (relI_rng 0 j.toNat)⟩
  ·cases h2
theorem ji_range2 {p : Pos} (hm : X.mg "range" = none) (ha : JA T X Wx [a, b] ga) (hg : Gl X "range":=by rfl) (hs : starEach [a, b] X.env = [(false, eval a X.env), (false, eval b X.env)]:=by rfl) (hs2 : starEach [b] X.env = [(false, eval b X.env)]:=by rfl) :
  JI T X Wx tg (.Call (.Name "range" p) [a, b] [] pos) (iArgs rng2 ga):=by
 obtain ⟨t, h1, s1⟩:=ha
 refine ⟨_, pi_range2 hg hm h1 hs hs2, fun G F A S H σ ρ Q hw hs hp => ?_⟩
 refine s1 G F A S H σ ρ _ hw hs (hp.bind fun ws S1 F1 A1 H1 v e1 p1 w1 r1 hp1 => ?_)
 obtain ⟨wk, h2, q⟩:=hp1.lift
 cases h3 : dats ws with
 | none => rw [h3] at h2; cases h2
 | some es =>
  rw [h3, Option.bind_some] at h2
  have rr:=dats_rep r1 h3
  cases h4 : rng2 es with
  | none => rw [h4] at h2; cases h2
  | some ds =>
  rw [h4] at h2
  cases h2
  have h2:=h4
  unfold rng2 at h2
  split at h2
  ·rename_i i j
   obtain ⟨c, h2⟩:=ifO_some h2
   cases h2
   obtain ⟨c1, c2⟩:=Bool.and_eq_true_iff.mp c
   have c1:=of_decide_eq_true c1
   have c2:=of_decide_eq_true c2
   obtain ⟨u, u2, rfl, ru, ru2⟩:=rr.two
   cases ru
   cases ru2
   exact ⟨i, j, rfl, ⟨by omega, by omega, by omega, by omega⟩, q F1 A1 H1 _ (Evl.Ex.refl _) (Pre.refl _) w1 (relI_rng i (j - i).toNat)⟩
  ·cases h2

def cutW (n : Nat) : Option W → Option W
 | some (.loc k j) => ifO (decide (k < n)) (some (.loc k j))
 | o => o
def cutR (n : Nat) (ρ : Rho) : Rho:=ρ.map (cutW n)
theorem Sl.cut {K : PySem.W.Frag} {F : Hp} {A A' : List (List Addr)} {ρ : Rho} {σ : L2.St} (p : Pre A A') (h : Sl K F A' ρ σ) : Sl K F A (cutR A.length ρ) σ:=by
 refine ⟨by unfold cutR; rw [List.length_map]; exact h.len, fun i w q => ?_⟩
 unfold cutR at q
 rw [List.getElem?_map] at q
 cases h1 : ρ[i]? with
 | none => rw [h1] at q; cases q
 | some o =>
  rw [h1] at q
  cases o with
  | none => cases q
  | some w' =>
   cases w' with
   | dat d =>
    cases q
    exact h.at_ i _ h1
   | scr ns =>
    cases q
    exact h.at_ i _ h1
   | exn x =>
    cases q
    exact h.at_ i _ h1
   | xl x =>
    cases q
    exact h.at_ i _ h1
   | loc k j =>
    have q : ifO (decide (k < A.length)) (some (W.loc k j)) = some w:=Option.some.inj q
    obtain ⟨c, q⟩:=ifO_some q
    cases q
    obtain ⟨v, h2, as, a, h3, h4, h5⟩:=h.at_ i _ h1
    have hk:=of_decide_eq_true c
    refine ⟨v, h2, as, a, ?_, h4, h5⟩
    have:=List.getElem?_take_of_lt (l:=A') hk
    rw [p.cutW] at this
    rw [this]
    exact h3
def forF (n : Nat) (bd : D → Rho → Sto → Out) (wk : Wk) : Nat → Nat → Rho → Sto → Out
 | m, i, ρ, S => match wk.ls S with
  | none => .bad
  | some ds => match ds[i]? with
   | none => (match decide (ds.length = i) with
    | true => .nx ρ S
    | false => .bad)
   | some d => match m with
    | 0 => .bad
    | m + 1 => match bd d ρ S with
     | .nx ρ' S' => forF n bd wk m (i + 1) (cutR n ρ') (S'.take n)
     | .ct ρ' S' => forF n bd wk m (i + 1) (cutR n ρ') (S'.take n)
     | .bk ρ' S' => .nx (cutR n ρ') (S'.take n)
     | r => r
def bodyF (gg : FG) (g : FS) : D → Rho → Sto → Out:=fun d ρ S => match gg (.dat d) ρ S with
 | some (ρ', S') => g ρ' S'
 | none => .bad
def sFor (fi : FI) (gg : FG) (g : FS) : FS:=fun ρ S => (fi ρ S).then ρ fun wk S1 => match wk.ls S1 with
 | some ds => forF S1.length (bodyF gg g) wk ds.length 0 ρ S1
 | none => .bad
theorem PostS.cutNx {K : PySem.W.Frag} {F' : Hp} {A A' : List (List Addr)} {S' : Sto} {H' : Hp} {ρ : Rho} {σ : L2.St} (p : Pre A A') (w : Wd T K F' A' S' H') (s : Sl K F' A' ρ σ) : Wd T K F' A (S'.take A.length) H' ∧ Sl K F' A (cutR A.length ρ) σ:=by
 have wc:=w.cut A.length
 rw [p.cutW] at wc
 exact ⟨wc, s.cut p⟩
theorem js_for {body : List Stmt} {fi : FI} {gg : FG} (hpass : PassesOwn (model X.prog X.w) X.A X.env X.xe) (hc : X.calm = true) (hi : JI T X Wx tg iter fi) (hg : JG T X tg gg) (hb : JB T X Wx body g) (hs : ∀ x, foldedSetIterable iter X.env x = pure x:=by intro _; rfl) :
  JS T X Wx (.For tg iter body [] pos) (sFor fi gg g):=by
 obtain ⟨wi, h1, s1⟩:=hi
 obtain ⟨tG, h2, s2⟩:=hg
 obtain ⟨tB, h3, s3⟩:=hb
 refine ⟨_, ps_for hpass hc h1 h2 h3 hs, fun G F A S H σ ρ D hw hsl hp => ?_⟩
 refine s1 G F A S H σ ρ _ hw hsl (PostS.then hsl hp fun wk S1 F1 A1 H1 J e1 p1 w1 rI q => ?_)
 rw [← w1.len] at q
 cases h0 : wk.ls S1 with
 | none => rw [h0] at q; exact q.elim
 | some ds0 =>
 rw [h0] at q
 refine ⟨fun i m σ' H' => ∃ F' S' ρ', Ex F1 F' ∧ Wd (T.g G) X.K F' A1 S' H' ∧ Sl X.K F' A1 ρ' σ' ∧ PostS (T.g G) X.K F' A1 (forF A1.length (bodyF gg g) wk m i ρ' S') D Wx,
  ⟨ds0.length, F1, S1, ρ, Evl.Ex.refl _, w1, hsl.mono e1 p1, q⟩, ?_⟩
 rintro i m σ' H' ⟨F', S', ρ', e', w', s', q'⟩
 unfold forF at q'
 cases hl : wk.ls S' with
 | none => rw [hl] at q'; exact q'.elim
 | some ds =>
 rw [hl] at q'
 simp only at q'
 obtain ⟨go, stop⟩:=rI G F' A1 S' H' e' (Pre.refl _) w' ds hl i
 cases hd : ds[i]? with
 | none =>
  rw [hd] at q'
  simp only at q'
  cases hz : decide (ds.length = i) with
  | false => rw [hz] at q'; exact q'.elim
  | true =>
   rw [hz] at q'
   exact .inl ⟨stop (of_decide_eq_true hz), q' F' A1 H' σ' (Evl.Ex.refl _) (Pre.refl _) w' s'⟩
 | some d =>
  rw [hd] at q'
  simp only at q'
  obtain ⟨gi, yl⟩:=go d hd
  cases m with
  | zero => exact q'.elim
  | succ m =>
  refine .inr ⟨gi, fun σ2 H2 => ∃ F2 S2 ρ2, Ex F1 F2 ∧ Wd (T.g G) X.K F2 A1 S2 H2 ∧ Sl X.K F2 A1 ρ2 σ2 ∧ PostS (T.g G) X.K F2 A1 (forF A1.length (bodyF gg g) wk m (i + 1) ρ2 S2) D Wx, ?_, fun x H'' y => ?_⟩
  ·rintro σ2 H2 ⟨F2, S2, ρ2, e2, w2, s2', q2⟩
   exact ⟨m, Nat.lt_succ_self m, F2, S2, ρ2, e2, w2, s2', q2⟩
  ·obtain ⟨F3, e3, w3, r3⟩:=yl x H'' y
   simp only [bodyF] at q'
   cases q0 : gg (.dat d) ρ' S' with
   | none => rw [q0] at q'; exact q'.elim
   | some z =>
    obtain ⟨ρ3, S3⟩:=z
    rw [q0] at q'
    simp only at q'
    refine s2 G F3 A1 S' H'' σ' ρ' (.dat d) x _ w3 (s'.mono e3 (Pre.refl _)) r3 ⟨ρ3, S3, q0, fun F4 A4 σ4 H4 e4 p4 w4 s4 => ?_⟩
    refine s3 G F4 A4 S3 H4 σ4 ρ3 _ w4 s4 ?_
    have q3:=PostS.shift q' (e3.trans e4) (Pre.refl _)
    have e34:=e'.trans (e3.trans e4)
    clear q'
    cases q5 : g ρ3 S3 with
    | nx ρ5 S5 =>
     rw [q5] at q3
     intro F5 A5 H5 σ5 e5 p5 w5 s5
     obtain ⟨w6, s6⟩:=PostS.cutNx (p4.trans p5) w5 s5
     exact ⟨F5, S5.take A1.length, _, e34.trans e5, w6, s6, PostS.shift q3 e5 (Pre.refl _)⟩
    | ct ρ5 S5 =>
     rw [q5] at q3
     intro F5 A5 H5 σ5 e5 p5 w5 s5
     obtain ⟨w6, s6⟩:=PostS.cutNx (p4.trans p5) w5 s5
     exact ⟨F5, S5.take A1.length, _, e34.trans e5, w6, s6, PostS.shift q3 e5 (Pre.refl _)⟩
    | bk ρ5 S5 =>
     rw [q5] at q3
     intro F5 A5 H5 σ5 e5 p5 w5 s5
     obtain ⟨w6, s6⟩:=PostS.cutNx (p4.trans p5) w5 s5
     exact q3 F5 A1 H5 σ5 e5 (Pre.refl _) w6 s6
    | rt w5 S5 => rw [q5] at q3; exact PostS.shift q3 (Evl.Ex.refl _) p4
    | exc x5 ρ5 S5 => rw [q5] at q3; exact PostS.shift q3 (Evl.Ex.refl _) p4
    | bad => rw [q5] at q3; exact q3
end
end Vz
namespace Vz
open PySem PySem.Spec PyProof.Rows L2
def wipeR (ρ : Rho) : List Nat → Rho
 | [] => ρ
 | v :: vs => (wipeR ρ vs).set v none
section
variable {T : Tb} {X : Cx} {Wx : WX} {e tg iter elt : Expr} {f : FE} {tc : FT} {pos : Pos}
theorem Sl.setN {K : PySem.W.Frag} {F : Hp} {A : List (List Addr)} {ρ : Rho} {σ : L2.St} (h : Sl K F A ρ σ) (i : Nat) : Sl K F A (ρ.set i none) (σ.set i none):=by
 refine ⟨by rw [List.length_set, List.length_set]; exact h.len, fun j w q => ?_⟩
 by_cases hj : i = j
 ·subst hj
  have hi : i < ρ.length:=by
   have q':=(List.getElem?_eq_some_iff.mp q).1
   rwa [List.length_set] at q'
  rw [List.getElem?_set_self hi] at q
  cases q
 ·rw [List.getElem?_set_ne hj] at q
  obtain ⟨v', h1, h2⟩:=h.at_ j w q
  exact ⟨v', by rw [List.getElem?_set_ne hj]; exact h1, h2⟩
theorem Sl.wipe {K : PySem.W.Frag} {F : Hp} {A : List (List Addr)} {ρ : Rho} {σ : L2.St} (h : Sl K F A ρ σ) : ∀ vs : List Nat, Sl K F A (wipeR ρ vs) (L2.wipe σ vs)
 | [] => h
 | v :: vs => (Sl.wipe h vs).setN v
theorem wipe_set {σ : L2.St} {i : Nat} {o : Option V} : ∀ {vs : List Nat}, L2.wipe (σ.set i o) vs = if i ∈ vs then L2.wipe σ vs else (L2.wipe σ vs).set i o
 | [] => by simp [L2.wipe]
 | v :: vs => by
  unfold L2.wipe
  rw [wipe_set (vs:=vs)]
  by_cases h : i = v
  ·subst h
   rw [if_pos List.mem_cons_self]
   split
   ·rfl
   ·rw [List.set_set]
  ·by_cases h2 : i ∈ vs
   ·rw [if_pos h2, if_pos (List.mem_cons_of_mem _ h2)]
   ·rw [if_neg h2, if_neg (by simp [h, h2]), List.set_comm _ _ h]
theorem wipe_set_in {σ : L2.St} {i : Nat} {o : Option V} {vs : List Nat} (h : i ∈ vs) : L2.wipe (σ.set i o) vs = L2.wipe σ vs:=by rw [wipe_set, if_pos h]
theorem wipe_wipe {σ : L2.St} {vs : List Nat} : L2.wipe (L2.wipe σ vs) vs = L2.wipe σ vs:=by
 have : ∀ us : List Nat, (∀ u ∈ us, u ∈ vs) → L2.wipe (L2.wipe σ us) vs = L2.wipe σ vs:=by
  intro us
  induction us with
  | nil => intro _; rfl
  | cons u us ih =>
   intro h
   show L2.wipe ((L2.wipe σ us).set u none) vs = _
   rw [wipe_set_in (h u List.mem_cons_self)]
   exact ih fun x hx => h x (List.mem_cons_of_mem _ hx)
 exact this vs fun _ h => h
abbrev FC:=D → Rho → Option Rho
structure JC (T : Tb) (X : Cx) (vs : List Nat) (tg : Expr) (g : FC) : Prop where
 ex : ∃ t, PG X tg t ∧ ∀ G F A S H σ ρ d v Q, Wd (T.g G) X.K F A S H → Sl X.K F A ρ σ → Rep X.K F d v → (∃ ρ', g d ρ = some ρ' ∧ ∀ σ', Sl X.K F A ρ' σ' → L2.wipe σ' vs = L2.wipe σ vs → Q σ' H) → t v σ H Q
structure JCs (T : Tb) (X : Cx) (vs : List Nat) (tgs : List Expr) (g : List D → Rho → Option Rho) : Prop where
 ex : ∃ t, PGs X tgs t ∧ ∀ G F A S H σ ρ ds us Q, Wd (T.g G) X.K F A S H → Sl X.K F A ρ σ → Reps X.K F ds us → (∃ ρ', g ds ρ = some ρ' ∧ ∀ σ', Sl X.K F A ρ' σ' → L2.wipe σ' vs = L2.wipe σ vs → Q σ' H) → t us σ H Q
def cName (i : Nat) : FC:=fun d ρ => some (ρ.set i (some (.dat d)))
theorem jc_name {i : Nat} {x : Str} {vs : List Nat} (hN : X.N.Nodup) (hi : X.N[i]? = some x:=by rfl) (hx : Loc X.env.scope x:=by first | exact Or.inl rfl | exact Or.inr rfl) (hv : i ∈ vs:=by decide) (hf : X.fn x = true ∨ X.env.scope.names.lookup x = some .local:=by first | exact .inl rfl | exact .inr rfl | assumption) : JC T X vs (.Name x pos) (cName i):=by
 refine ⟨_, pg_name hN hi hx hf, fun G F A S H σ ρ d v Q hw hs r ⟨ρ', h1, q⟩ => ?_⟩
 cases h1
 exact q _ (hs.set (w:=.dat d) i r) (wipe_set_in hv)
def cnNil : List D → Rho → Option Rho:=fun ds ρ => match ds with
 | [] => some ρ
 | _ => none
def cnCons (i : Nat) (gs : List D → Rho → Option Rho) : List D → Rho → Option Rho:=fun ds ρ => match ds with
 | d :: r => gs r (ρ.set i (some (.dat d)))
 | _ => none
theorem jcs_nil {vs : List Nat} : JCs T X vs [] cnNil:=by
 refine ⟨_, pgs_nil, fun G F A S H σ ρ ds us Q hw hs r ⟨ρ', h1, q⟩ => ?_⟩
 cases r with
 | nil =>
  cases h1
  exact ⟨rfl, q _ hs rfl⟩
 | cons _ _ => cases h1
theorem jcs_cons {i : Nat} {x : Str} {vs : List Nat} {tgs : List Expr} {gs : List D → Rho → Option Rho} (hN : X.N.Nodup) (h2 : JCs T X vs tgs gs) (hi : X.N[i]? = some x:=by rfl) (hx : Loc X.env.scope x:=by first | exact Or.inl rfl | exact Or.inr rfl) (hv : i ∈ vs:=by decide)
  (hf : X.fn x = true ∨ X.env.scope.names.lookup x = some .local:=by first | exact .inl rfl | exact .inr rfl | assumption)
  (hst : (assignEach (.Name x pos :: tgs) X.env).map (·.2) = assign (.Name x pos) X.env :: (assignEach tgs X.env).map (·.2):=by rfl) : JCs T X vs (.Name x pos :: tgs) (cnCons i gs):=by
 obtain ⟨u, h2, s2⟩:=h2
 refine ⟨_, pgs_cons (pg_name hN hi hx hf) h2 hst, fun G F A S H σ ρ ds us Q hw hs r ⟨ρ', h1, q⟩ => ?_⟩
 cases r with
 | nil => cases h1
 | cons r rr => exact ⟨_, _, rfl, s2 G F A S H _ _ _ _ Q hw (hs.set (w:=.dat _) i r) rr ⟨ρ', h1, fun σ' s' e' => q σ' s' (e'.trans (wipe_set_in hv))⟩⟩
def cTup (n : Nat) (gs : List D → Rho → Option Rho) : FC:=fun d ρ => match d with
 | .tup _ ds => ifO (decide (ds.length = n)) (gs ds ρ)
 | _ => none
theorem jc_tup {tgs : List Expr} {k : Nat} {vs : List Nat} {gs : List D → Rho → Option Rho} {n : Nat} (hc : X.calm = true) (h : JCs T X vs tgs gs) (hn : (assignEach tgs X.env).length = n:=by rfl) (hst : (assignEach tgs X.env).findIdx? (·.1) = none:=by rfl) :
  JC T X vs (.Tuple tgs k pos) (cTup n gs):=by
 obtain ⟨t, h1, s1⟩:=h
 refine ⟨_, pg_tup hc h1 hn hst, fun G F A S H σ ρ d v Q hw hs r ⟨ρ', h2, q⟩ => ?_⟩
 cases r with
 | tup f1 f3 =>
  obtain ⟨c, h2⟩:=ifO_some h2
  exact ⟨_, _, rfl, sqt_mono hw.sub f1.sq, by rw [← f3.length]; exact of_decide_eq_true c, s1 G F A S H σ ρ _ _ Q hw hs f3 ⟨ρ', h2, q⟩⟩
 | _ => cases h2
def cG (T : Tb) (K : PySem.W.Frag) (vs : List Nat) (g : FC) : TG:=fun v σ H Q => ∃ G F A S ρ d, Wd (T.g G) K F A S H ∧ Sl K F A ρ σ ∧ Rep K F d v ∧ ∃ ρ', g d ρ = some ρ' ∧ ∀ σ', Sl K F A ρ' σ' → L2.wipe σ' vs = L2.wipe σ vs → Q σ' H
theorem JC.pg {vs : List Nat} {g : FC} (h : JC T X vs tg g) : PG X tg (cG T X.K vs g):=by
 obtain ⟨t, h1, s1⟩:=h
 exact ⟨fun pins s σ H v u Q I r ⟨G, F, A, S, ρ, d, a, b, c, k⟩ => h1.run pins s σ H v u Q I r (s1 G F A S H σ ρ d v Q a b c k)⟩
structure JP (T : Tb) (X : Cx) (Wx : WX) (ifs : List Expr) (f : FT) : Prop where
 ex : ∃ t, PTs X ifs t ∧ SemT T X.K Wx t f
def fYes : FT:=fun _ S => .ok true S
theorem jp_nil : JP T X Wx [] fYes:=⟨_, pts_nil, fun G F A S H σ ρ Q hw hs hp => hp F A H true (Evl.Ex.refl _) (Pre.refl _) hw rfl⟩
theorem jp_one (h : JT T X Wx e tc) : JP T X Wx [e] tc:=by
 obtain ⟨t, h1, s1⟩:=h
 exact ⟨t, pts_one h1, s1⟩
theorem PTs.weak {es : List Expr} {t u : TT} (h : PTs X es t) (i : ∀ σ H Q, u σ H Q → t σ H Q) : PTs X es u:=⟨fun p s σ H Q I q => h.run p s σ H Q I (i σ H Q q)⟩
theorem JP.pts {es : List Expr} {f : FT} (h : JP T X Wx es f) : PTs X es (cT T X.K Wx f):=by
 obtain ⟨t, h1, h2⟩:=h
 exact PTs.weak h1 fun σ H Q ⟨G, F, A, S, ρ, a, b, c⟩ => h2 G F A S H σ ρ Q a b c
def R.noX {α : Type} : R α → R α
 | .exc _ _ => .bad
 | r => r
def lcB (gg : FC) (t : FT) (f : FE) (ρ : Rho) : D → Sto → R (Option D):=fun d S => match gg d ρ with
 | some ρ2 => (t ρ2 S).noX.bind fun c S1 => (match c with
  | true => (f ρ2 S1).noX.bind fun w S2 => R.lift ((frd S2 w).map some) S2
  | false => .ok none S1)
 | none => .bad
def lcF (n : Nat) (bd : D → Sto → R (Option D)) (wk : Wk) : Nat → Nat → Sto → R (List D)
 | m, i, S => match wk.ls S with
  | none => .bad
  | some ds => match ds[i]? with
   | none => (match decide (ds.length = i) with
    | true => .ok [] S
    | false => .bad)
   | some d => match m with
    | 0 => .bad
    | m + 1 => (bd d S).bind fun o S1 => (lcF n bd wk m (i + 1) (S1.take n)).bind fun r S2 => .ok (o.toList ++ r) S2
def lComp (fi : FI) (vs : List Nat) (gg : FC) (t : FT) (f : FE) : FL:=fun ρ S => (fi ρ S).bind fun wk S1 => match (wk.ls S1).bind small with
 | some ds => lcF S1.length (lcB gg t f (wipeR ρ vs)) wk ds.length 0 S1
 | none => .bad
theorem Wd.still {K : PySem.W.Frag} {G F H : Hp} {A : List (List Addr)} {S : Sto} {p : Addr} {o : HO} (w : Wd (T.g G) K F A S H) (h : H p = some o) (hF : F p = none) (hG : G p = none) (hA : p ∉ A.flatten) (ho : ∀ ps, o ≠ .tbl ps:=by intro ps z; cases z) : Wd (T.g (upd G p o)) K F A S H:=by
 refine ⟨w.sub, w.len, w.ok, w.nod, w.there, fun a u e => ?_, fun a ha => ?_, fun a u e => ?_, ⟨w.tb.tabs, w.tb.f, fun q hq => by
  show upd G p o q.1 = none
  rw [upd_ne (w.tb.n2 hq h ho)]
  exact w.tb.g q hq, w.tb.a, w.tb.nf, fun b ps z => by
  have z : upd G p o b = some (.tbl ps):=z
  by_cases e : b = p
  ·subst e
   rw [upd_same] at z
   exact ho ps (Option.some.inj z)
  ·rw [upd_ne e] at z
   exact w.tb.ng b ps z, w.tb.na⟩⟩
 ·by_cases z : a = p
  ·subst z
   have e : upd G a o a = some u:=e
   rw [upd_same] at e
   rw [h]
   exact e
  ·have e : upd G p o a = some u:=e
   rw [upd_ne z] at e
   exact w.gh a u e
 ·show upd G p o a = none
  rw [upd_ne]
  ·exact w.gd a ha
  ·rintro rfl
   exact hA ha
 ·rcases w.fg a u e with z | z
  ·left
   show upd G p o a = none
   rw [upd_ne]
   ·exact z
   ·rintro rfl
    rw [hF] at e
    cases e
  ·exact .inr z
theorem Wd.unstill {K : PySem.W.Frag} {G F H : Hp} {A : List (List Addr)} {S : Sto} {p : Addr} {o : HO} (w : Wd (T.g (upd G p o)) K F A S H) (hG : G p = none) (ho : ∀ vs, o ≠ .tup vs:=by intro vs z; cases z) : Wd (T.g G) K F A S H ∧ H p = some o ∧ F p = none ∧ p ∉ A.flatten:=by
 have e : Ex G (upd G p o):=Evl.Ex.new hG
 have back : ∀ a, upd G p o a = none → G a = none:=fun a h => Evl.fresh_back e h
 refine ⟨⟨w.sub, w.len, w.ok, w.nod, w.there, e.trans w.gh, fun a ha => back a (w.gd a ha), fun a u h => (w.fg a u h).imp (back a) id, ⟨w.tb.tabs, w.tb.f, fun q hq => back _ (w.tb.g q hq), w.tb.a, w.tb.nf, fun b ps z => w.tb.ng b ps (e b _ z), w.tb.na⟩⟩, w.gh p o upd_same, ?_, fun z => ?_⟩
 ·cases h : F p with
  | none => rfl
  | some u =>
   rcases w.fg p u h with q | ⟨vs, rfl⟩
   ·have q : upd G p o p = none:=q
    rw [upd_same] at q
    cases q
   ·have z:=w.sub p _ h
    rw [w.gh p o upd_same] at z
    exact (ho vs (Option.some.inj z)).elim
 ·have q : upd G p o p = none:=w.gd p z
  rw [upd_same] at q
  cases q
theorem Wd.grow {K : PySem.W.Frag} {G F H : Hp} {A : List (List Addr)} {S : Sto} {p : Addr} {o : HO} (w : Wd (T.g G) K F A S H) (hF : F p = none) (hG : G p = none) (hA : p ∉ A.flatten) {o0 : HO} (hH : H p = some o0) (n1 : ∀ ps, o0 ≠ .tbl ps:=by intro ps z; cases z) (n2 : ∀ φ, o0 ≠ .ext φ:=by intro φ z; cases z) : Wd (T.g G) K F A S (upd H p o):=by
 have ne : ∀ a ∈ A.flatten, a ≠ p:=fun a ha z => by rw [z] at ha; exact hA ha
 refine ⟨fun a u e => ?_, w.len, fun k as c h1 h2 => (w.ok k as c h1 h2).more (Evl.Ex.refl F) (fun a ha e => e) (fun a ha _ => ?_), w.nod, fun a ha => ?_, fun a u e => ?_, w.gd, w.fg, ⟨tabs_upd w.tb.tabs hH n1 n2, w.tb.f, w.tb.g, w.tb.a, w.tb.nf, w.tb.ng, fun b hb ps z => by
  rw [upd_ne (ne b hb)] at z
  exact w.tb.na b hb ps z⟩⟩
 ·rw [upd_ne]
  ·exact w.sub a u e
  ·rintro rfl
   rw [hF] at e
   cases e
 ·rw [upd_ne (ne a (mem_flat h1 ha))]
 ·rw [upd_ne (ne a ha)]
  exact w.there a ha
 ·rw [upd_ne]
  ·exact w.gh a u e
  ·rintro rfl
   have e : G a = some u:=e
   rw [hG] at e
   cases e
theorem sem_lc {wi : TI} {fi : FI} {vs : List Nat} {gg : FC} {K : PySem.W.Frag} (s1 : ∀ G F A S H σ ρ Q, Wd (T.g G) K F A S H → Sl K F A ρ σ → Post (T.g G) K (relI (T.g G) K) F A (fi ρ S) Q (fun c d H' => Wx c d σ H') → wi σ H Q) :
  ∀ G F A S H σ ρ Q, Wd (T.g G) K F A S H → Sl K F A ρ σ → PostL (T.g G) K F A (lComp fi vs gg tc f ρ S) Q (fun c d H' => Wx c d σ H') → tLc wi (cG T K vs gg) (cT T K noW tc) (cE T K noW f) vs σ H Q:=by
 intro G F A S H σ ρ Q hw hsl hp
 refine s1 G F A S H σ ρ _ hw hsl (hp.bind fun wk S1 F1 A1 H1 J e1 p1 w1 rI q => ?_)
 intro Dd hD
 cases hl0 : wk.ls S1 with
 | none => rw [hl0] at q; exact q.elim
 | some ds0 =>
 rw [hl0, Option.bind_some] at q
 cases hsm : small ds0 with
 | none => rw [hsm] at q; exact q.elim
 | some ds' =>
  have e0 : ds' = ds0:=by
   unfold small at hsm
   exact (Option.some.inj (ifO_some hsm).2).symm
  subst e0
  rw [hsm] at q
  have hlim : ds'.length ≤ lim:=by
   unfold small at hsm
   exact of_decide_eq_true (ifO_some hsm).1
  simp only at q
  rw [← w1.len] at q
  have nF : F1 Dd = none:=w1.freshF hD
  have nG : G Dd = none:=Evl.fresh_back w1.gh hD
  have nA : Dd ∉ A1.flatten:=fun z => by
   have:=w1.there Dd z
   rw [hD] at this
   cases this
  refine ⟨fun i m H' => ∃ F' S' acc us, Ex F1 F' ∧ Wd (T.g G) K F' A1 S' H' ∧ F' Dd = none ∧ H' Dd = some (.lst us) ∧ Reps K F' acc us ∧ acc.length ≤ i ∧ i + m = ds'.length ∧
   PostL (T.g G) K F' A1 ((lcF A1.length (lcB gg tc f (wipeR ρ vs)) wk m i S').bind fun r S2 => .ok (acc ++ r) S2) Q (fun c d H' => Wx c d σ H'),
   ⟨ds'.length, F1, S1, [], [], Evl.Ex.refl _, w1.junk hD _, nF, upd_same, .nil, Nat.zero_le _, by simp, ?_⟩, ?_⟩
  ·cases h1 : lcF A1.length (lcB gg tc f (wipeR ρ vs)) wk ds'.length 0 S1 with
   | ok r S2 => rw [h1] at q; exact q
   | exc x S2 => rw [h1] at q; exact q
   | bad => rw [h1] at q; exact q
  ·rintro i m H' ⟨F', S', acc, us, e', w', nF', hH', hr', hal, him, q'⟩
   unfold lcF at q'
   cases hl : wk.ls S' with
   | none => rw [hl] at q'; exact q'.elim
   | some ds =>
   rw [hl] at q'
   simp only at q'
   obtain ⟨go, stop⟩:=rI G F' A1 S' H' e' (Pre.refl _) w' ds hl i
   cases hd : ds[i]? with
   | none =>
    rw [hd] at q'
    simp only at q'
    cases hz : decide (ds.length = i) with
    | false => rw [hz] at q'; exact q'.elim
    | true =>
     rw [hz] at q'
     simp only [R.bind, List.append_nil] at q'
     exact .inl ⟨stop (of_decide_eq_true hz), q' F' A1 H' Dd us (Evl.Ex.refl _) (Pre.refl _) w' hH' nF' nG nA hr'⟩
   | some d0 =>
    rw [hd] at q'
    simp only at q'
    obtain ⟨gi, _⟩:=go d0 hd
    cases m with
    | zero => exact q'.elim
    | succ m =>
    refine .inr ⟨gi, fun H2 => ∃ F2 S2 acc2 us2, Ex F1 F2 ∧ Wd (T.g G) K F2 A1 S2 H2 ∧ F2 Dd = none ∧ H2 Dd = some (.lst us2) ∧ Reps K F2 acc2 us2 ∧ acc2.length ≤ i + 1 ∧
     PostL (T.g G) K F2 A1 ((lcF A1.length (lcB gg tc f (wipeR ρ vs)) wk m (i + 1) S2).bind fun r S2 => .ok (acc2 ++ r) S2) Q (fun c d H' => Wx c d σ H'), ?_, fun x H'' y => ?_⟩
    ·rintro H2 ⟨F2, S2, acc2, us2, a1, a2, a3, a4, a5, a6, a7⟩
     exact ⟨m, Nat.lt_succ_self m, F2, S2, acc2, us2, a1, a2, a3, a4, a5, a6, by omega, a7⟩
    ·have w2:=w'.still hH' nF' nG nA
     obtain ⟨go2, _⟩:=rI _ F' A1 S' H' e' (Pre.refl _) w2 ds hl i
     obtain ⟨_, yl⟩:=go2 d0 hd
     obtain ⟨F3, e3, w3, r3⟩:=yl x H'' y
     have sw : Sl K F3 A1 (wipeR ρ vs) (L2.wipe σ vs):=((hsl.mono e1 p1).mono (e'.trans e3) (Pre.refl _)).wipe vs
     simp only [lcB] at q'
     cases q0 : gg d0 (wipeR ρ vs) with
     | none => rw [q0] at q'; exact q'.elim
     | some ρ2 =>
      rw [q0] at q'
      simp only at q'
      refine ⟨_, F3, A1, S', wipeR ρ vs, d0, w3, sw, r3, ρ2, q0, fun σ' s' hwipe => ⟨hwipe.trans wipe_wipe, ?_⟩⟩
      refine ⟨_, F3, A1, S', ρ2, w3, s', ?_⟩
      cases qt : tc ρ2 S' with
      | bad => rw [qt] at q'; exact q'.elim
      | exc x2 S2 => rw [qt] at q'; exact q'.elim
      | ok b S2 =>
       rw [qt] at q'
       simp only [R.noX, R.bind] at q'
       intro F4 A4 H4 b' e4 p4 w4 rb
       cases rb
       cases b with
       | false =>
        simp only [Bool.false_eq_true, if_false]
        simp only [Option.toList, List.nil_append] at q'
        obtain ⟨w5, h5, f5, a5⟩:=w4.unstill nG
        have w6:=w5.cut A1.length
        rw [p4.cutW] at w6
        refine ⟨F4, S2.take A1.length, acc, us, (e'.trans e3).trans e4, w6, f5, h5, hr'.mono (e3.trans e4), by omega, ?_⟩
        refine PostL.shift (F:=F') (A:=A1) ?_ (e3.trans e4) (Pre.refl _)
        cases h1 : lcF A1.length (lcB gg tc f (wipeR ρ vs)) wk m (i + 1) (S2.take A1.length) with
        | ok r S3 =>
         rw [h1] at q'
         exact q'
        | exc x S3 =>
         rw [h1] at q'
         exact q'
        | bad =>
         rw [h1] at q'
         exact q'
       | true =>
        simp only [if_true]
        simp only at q'
        refine ⟨_, F4, A4, S2, ρ2, w4, s'.mono e4 p4, ?_⟩
        cases qf : f ρ2 S2 with
        | bad => rw [qf] at q'; exact q'.elim
        | exc x2 S3 => rw [qf] at q'; exact q'.elim
        | ok w S3 =>
         rw [qf] at q'
         simp only [R.noX, R.bind] at q'
         intro F5 A5 H5 v5 e5 p5 w5 r5
         cases qd : frd S3 w with
         | none => rw [qd] at q'; exact q'.elim
         | some d =>
          rw [qd] at q'
          simp only [Option.map_some, R.lift, Option.toList] at q'
          have rd5:=frd_rep w5 r5 qd
          obtain ⟨w6, h6, f6, a6⟩:=w5.unstill nG
          refine ⟨us, h6, ?_, ?_⟩
          ·rw [← hr'.length]
           exact lim_lt (by omega)
          ·have w7:=(w6.grow (o:=.lst (us ++ [v5])) f6 nG a6 h6).cut A1.length
           rw [(p4.trans p5).cutW] at w7
           refine ⟨F5, S3.take A1.length, acc ++ [d], us ++ [v5], ((e'.trans e3).trans e4).trans e5, w7, f6, upd_same, (hr'.mono ((e3.trans e4).trans e5)).append (.cons rd5 .nil), by rw [List.length_append, List.length_singleton]; omega, ?_⟩
           refine PostL.shift (F:=F') (A:=A1) ?_ ((e3.trans e4).trans e5) (Pre.refl _)
           cases h1 : lcF A1.length (lcB gg tc f (wipeR ρ vs)) wk m (i + 1) (S3.take A1.length) with
           | ok r S4 =>
            rw [h1] at q'
            simp only [R.bind, List.append_assoc]
            exact q'
           | exc x S4 =>
            rw [h1] at q'
            exact q'
           | bad =>
            rw [h1] at q'
            exact q'
theorem jl_comp {ifs : List Expr} {scope : Scope} {own : List (Str × Nat)} {fi : FI} {gg : FC} (hc : X.calm = true) (hN : X.N.Nodup) (hi : JI T X Wx tg iter fi) (ok : BlkOk X.N X.env.scope scope own)
  (hg : ∀ (s : Shared) (H : Hp) (C : Addr) (cl : List (Str × Addr)) (fp : List Addr), JC T (X.blk s H scope (compEnvC scope cl C X.env) fp) (own.map (·.2)) tg gg)
  (ht : ∀ (s : Shared) (H : Hp) (C : Addr) (cl : List (Str × Addr)) (fp : List Addr), JP T (X.blk s H scope (compEnvC scope cl C X.env) fp) noW ifs tc)
  (he : ∀ (s : Shared) (H : Hp) (C : Addr) (cl : List (Str × Addr)) (fp : List Addr), JE T (X.blk s H scope (compEnvC scope cl C X.env) fp) noW elt f) (hs : ∀ x, foldedSetIterable iter X.env x = pure x:=by intro _; rfl) :
  JL T X Wx (.ListComp elt [⟨tg, iter, ifs, 0⟩] scope pos) (lComp fi (own.map (·.2)) gg tc f):=by
 obtain ⟨wi, h1, s1⟩:=hi
 exact ⟨_, pe_lc hc hN h1 ok (fun s H C cl fp => (hg s H C cl fp).pg) (fun s H C cl fp => (ht s H C cl fp).pts) (fun s H C cl fp => (he s H C cl fp).pe) hs, sem_lc s1⟩
def sSetL (i : Nat) (c : Bool) (f : FL) : FS:=sSet i (match c with
 | true => fCell f
 | false => fFrz f)
theorem semL_frz {K : PySem.W.Frag} {t : TE} {g : FL} (s1 : ∀ G F A S H σ ρ Q, Wd (T.g G) K F A S H → Sl K F A ρ σ → PostL (T.g G) K F A (g ρ S) Q (fun c d H' => Wx c d σ H') → t σ H Q) : SemE T K Wx t (fFrz g):=by
 intro G F A S H σ ρ Q hw hs hp
 refine s1 G F A S H σ ρ Q hw hs ?_
 unfold fFrz at hp
 cases q : g ρ S with
 | ok ds S1 =>
  rw [q] at hp
  exact fun F1 A1 H1 p vs e1 p1 w1 hH hF hG hA hr => hp _ A1 H1 _ (e1.trans (Evl.Ex.new hF)) p1 (w1.adopt hH hF hG hA) (.lst upd_same (hr.mono (Evl.Ex.new hF)))
 | exc x S1 => rw [q] at hp; exact hp
 | bad => rw [q] at hp; exact hp
theorem semL_cell {K : PySem.W.Frag} {t : TE} {g : FL} (s1 : ∀ G F A S H σ ρ Q, Wd (T.g G) K F A S H → Sl K F A ρ σ → PostL (T.g G) K F A (g ρ S) Q (fun c d H' => Wx c d σ H') → t σ H Q) : SemE T K Wx t (fCell g):=by
 intro G F A S H σ ρ Q hw hs hp
 refine s1 G F A S H σ ρ Q hw hs ?_
 unfold fCell at hp
 cases q : g ρ S with
 | ok ds S1 =>
  rw [q] at hp
  refine fun F1 A1 H1 p vs e1 p1 w1 hH hF hG hA hr => hp F1 (A1 ++ [[p]]) H1 _ e1 (p1.trans (Pre.push _ _)) (w1.adoptC hH hG hA ⟨p, vs, rfl, hF, hH, hr⟩) ⟨[p], p, ?_, rfl, rfl⟩
  rw [← w1.len, List.getElem?_concat_length]
 | exc x S1 => rw [q] at hp; exact hp
 | bad => rw [q] at hp; exact hp
theorem js_setL {i : Nat} {y : Str} {py spos : Pos} {ifs : List Expr} {scope : Scope} {own : List (Str × Nat)} {fi : FI} {gg : FC} (c : Bool) (hc : X.calm = true) (hN : X.N.Nodup) (hi : JI T X Wx tg iter fi) (ok : BlkOk X.N X.env.scope scope own)
  (hg : ∀ (s : Shared) (H : Hp) (C : Addr) (cl : List (Str × Addr)) (fp : List Addr), JC T (X.blk s H scope (compEnvC scope cl C X.env) fp) (own.map (·.2)) tg gg)
  (ht : ∀ (s : Shared) (H : Hp) (C : Addr) (cl : List (Str × Addr)) (fp : List Addr), JP T (X.blk s H scope (compEnvC scope cl C X.env) fp) noW ifs tc)
  (he : ∀ (s : Shared) (H : Hp) (C : Addr) (cl : List (Str × Addr)) (fp : List Addr), JE T (X.blk s H scope (compEnvC scope cl C X.env) fp) noW elt f)
  (hsw : swapsWith (.ListComp elt [⟨tg, iter, ifs, 0⟩] scope pos) (some (.Name y py)) spos.line X.env = pure true)
  (hy : X.N[i]? = some y:=by rfl) (hyl : X.env.scope.names.lookup y = some .local:=by rfl) (hs : ∀ x, foldedSetIterable iter X.env x = pure x:=by intro _; rfl) :
  JS T X Wx (.Assign [.Name y py] (.ListComp elt [⟨tg, iter, ifs, 0⟩] scope pos) spos) (sSetL i c (lComp fi (own.map (·.2)) gg tc f)):=by
 obtain ⟨wi, h1, s1⟩:=hi
 have core:=sem_lc (T:=T) (Wx:=Wx) (tc:=tc) (f:=f) (vs:=own.map (·.2)) (gg:=gg) s1
 have sE : SemE T X.K Wx (tLc wi (cG T X.K (own.map (·.2)) gg) (cT T X.K noW tc) (cE T X.K noW f) (own.map (·.2))) (match c with
  | true => fCell (lComp fi (own.map (·.2)) gg tc f)
  | false => fFrz (lComp fi (own.map (·.2)) gg tc f)):=by
  cases c with
  | true => exact semL_cell core
  | false => exact semL_frz core
 refine ⟨_, ps_setLc (g:=cG T X.K (own.map (·.2)) gg) (tt:=cT T X.K noW tc) (te:=cE T X.K noW f) hc hN hy hyl hsw h1 ok (fun s H C cl fp => (hg s H C cl fp).pg) (fun s H C cl fp => (ht s H C cl fp).pts) (fun s H C cl fp => (he s H C cl fp).pe) hs, fun G F A S H σ ρ D hw hsl hp => ?_⟩
 refine sE G F A S H σ ρ _ hw hsl (PostS.then hsl hp fun w S' F' A' H' v e p w' r q => ?_)
 exact q F' A' H' _ (Evl.Ex.refl _) (Pre.refl _) w' ((hsl.mono e p).set i r)
end
end Vz
namespace Vz
open PySem PySem.Spec PyProof.Rows L2
def SqA (K : PySem.W.Frag) (H : Hp) (a : Addr) (xs : List V) : Prop:=SqL K H a xs ∨ SqT K H a xs
theorem SqA.mono {K : PySem.W.Frag} {F F' : Hp} {a : Addr} {xs : List V} (e : Ex F F') : SqA K F a xs → SqA K F' a xs
 | .inl h => .inl (sql_mono e h)
 | .inr h => .inr (sqt_mono e h)
def HIt (h : Heap) (it a : Addr) (i : Nat) : Bool → Prop
 | false => h.IsListIter it a i
 | true => h.IsTupleIter it a i
def HSq (h : Heap) (a : Addr) (its : Array Value) : Bool → Prop
 | false => h.IsList a its
 | true => h.IsTuple a its
def SqB (K : PySem.W.Frag) (H : Hp) (a : Addr) (xs : List V) : Bool → Prop
 | false => SqL K H a xs
 | true => SqT K H a xs
theorem SqB.mono {K : PySem.W.Frag} {F F' : Hp} {a : Addr} {xs : List V} (e : Ex F F') : ∀ {b : Bool}, SqB K F a xs b → SqB K F' a xs b
 | false, h => sql_mono e h
 | true, h => sqt_mono e h
theorem draws_b {prog : Program} {w : World} {A : Around} (hh : A.handled = none) (it t : Addr) (hne : t ≠ it) (its : Array Value) :
  ∀ b : Bool, Draws prog w A it [it, t] its.size (fun i v => its[i]? = some v) (fun i h => HIt h it t i b ∧ HSq h t its b)
 | false => Draws.list hh it t hne its
 | true => Draws.tuple hh it t hne its
def itObj (t : Addr) : Bool → Obj
 | false => ⟨.type "list_iterator", none, .fields #[.ref t, .int 0 0], #[]⟩
 | true => ⟨.type "tuple_iterator", none, .fields #[.ref t, .int 0 0], #[]⟩
theorem begins_b (t : Addr) (its : Array Value) : ∀ b : Bool, Begins (.ref t) (itObj t b) fun h => HSq h t its b
 | false => begins_list t its
 | true => begins_tuple t its
theorem hit_of {h : Heap} {it t : Addr} : ∀ {b : Bool}, h.get? it = some (itObj t b) → HIt h it t 0 b
 | false, e => ⟨_, e, rfl, rfl⟩
 | true, e => ⟨_, e, rfl, rfl⟩
theorem HIt.obj {h : Heap} {it t : Addr} {i : Nat} : ∀ {b : Bool}, HIt h it t i b → ∃ o, h.get? it = some o ∧ ∀ v, o.data ≠ .cell v
 | false, ⟨o, e, _, d⟩ => ⟨o, e, fun v q => by rw [d] at q; cases q⟩
 | true, ⟨o, e, _, d⟩ => ⟨o, e, fun v q => by rw [d] at q; cases q⟩
theorem HIt.at {h h' : Heap} {it t : Addr} {i : Nat} (k : ∀ o, h.get? it = some o → h'.get? it = some o) : ∀ {b : Bool}, HIt h it t i b → HIt h' it t i b
 | false, x => Heap.IsListIter.at x k
 | true, x => Heap.IsTupleIter.at x k
section
variable {X : Cx} {pins : List (Addr × Obj)} {σ : L2.St} {H : Hp} {s : Shared}
theorem inv_b (I : Inv X pins σ H s) {a : Addr} {xs : List V} : ∀ {b : Bool}, SqB X.K H a xs b → ∃ its : List Value, Vals xs its ∧ HSq s.heap a its.toArray b ∧ xs.length ≤ sizeLine
 | false, h => let ⟨its, r, p, z⟩:=I.list h; ⟨its, r, p.isList, z⟩
 | true, h => let ⟨its, r, p, z⟩:=I.tuple h; ⟨its, r, p, z⟩
theorem inj_b (I : Inv X pins σ H s) {a : Addr} {xs ys : List V} : ∀ {b : Bool}, SqB X.K H a xs b → SqB X.K H a ys b → xs = ys
 | false, h, h' => I.list_inj h h'
 | true, h, h' => I.tuple_inj h h'
end
theorem HSq.lt {h : Heap} {a : Addr} {its : Array Value} : ∀ {b : Bool}, HSq h a its b → a < h.objs.size
 | false, ⟨_, e, _⟩ => Heap.lt_size e
 | true, ⟨_, e, _⟩ => Heap.lt_size e

def IteB (K : PySem.W.Frag) (a : Addr) (b : Bool) : It :=
 ⟨fun i H => ∃ (xs : List V) (x : V), SqB K H a xs b ∧ xs[i]? = some x,
  fun i H v H' => ∃ T x, v = .ref T ∧ H T = none ∧ H' = upd H T (.tup [.int (i : Nat), x]) ∧ ∀ xs, SqB K H a xs b → xs[i]? = some x,
  fun i H => ∃ xs : List V, SqB K H a xs b ∧ xs.length = i⟩
theorem turn_enumB {P : Program} {w : World} {K : PySem.W.Frag} {elts : List Expr} {kk : Nat} {tpos : Pos} (b : Bool) (a e it : Addr) :
  Turn P w K (.Tuple elts kk tpos) (IteB K a b) [e, it] e (fun i h => (∃ old, IsEnum h e it ((i : Nat) : Int) old) ∧ HIt h it a i b ∧ e ≠ it ∧ a ≠ it ∧ a ≠ e) where
 mem:=by simp
 obj:=fun i h st c hc => by
  obtain ⟨⟨old, he⟩, hi, _⟩:=st
  have z : c = e ∨ c = it:=by simpa using hc
  rcases z with z | z
  ·subst z
   exact ⟨_, he, fun v q => nomatch q⟩
  ·subst z
   exact hi.obj
 keep:=fun i h h' st k => by
  obtain ⟨⟨old, he⟩, hi, hne⟩:=st
  exact ⟨⟨old, k e (by simp) _ he⟩, hi.at fun o q => k it (by simp) o q, hne⟩
 item:=by
  intro X hP hw hK hc i pins s σ H E I hf st hg
  subst hP hw hK
  obtain ⟨⟨old, he⟩, hit, hne, hai, hae⟩:=st
  obtain ⟨xs, x, hq, hx⟩:=hg
  obtain ⟨its, rv, p, hz⟩:=inv_b I hq
  obtain ⟨u, hu, ru⟩:=rv.get hx
  have hil : it < s.heap.objs.size:=by
   obtain ⟨o, q, _⟩:=hit.obj
   exact Heap.lt_size q
  have hel : e < s.heap.objs.size:=Heap.lt_size he
  have hlt : i < its.toArray.size:=by
   have:=(List.getElem?_eq_some_iff.mp hu).1
   simpa using this
  refine wpAny_pyNext_enum_itemD (draws_b (A:=X.A.in1) (I.ok.hd hc) it a hai its.toArray b) he ⟨hit, p⟩ hlt hne (by simp [hne, Ne.symm hae]) fun v h' tk hv ho st' hT hsz hk => ?_
  have ev : v = u:=by
   have h1 : its[i]? = some v:=by simpa using hv
   rw [hu] at h1
   exact (Option.some.inj h1).symm
  subst ev
  refine ⟨_, rfl, wpAny_letOwnedTupleGo_enum (s:={ s with heap:=h', toks:=tk + 1 }) ho fun h'' he' sb => ?_⟩
  have hT2 : h''.get? s.heap.objs.size = some { cls:=.type "tuple", data:=.seq #[.int i tk, v] }:=(sb.2 _ (Nat.ne_of_gt hel)).trans hT
  have new : ObjOk X.prog X.w (upd H s.heap.objs.size (.tup [.int (i : Nat), x])) h'' s.heap.objs.size (.tup [.int (i : Nat), x]) :=
   ⟨(by show 2 ≤ sizeLine; exact lim_le (by decide)), [.int i tk, v], .cons ⟨_, rfl⟩ (.cons ru .nil), _, hT2, rfl, _, rfl⟩
  have I1 : Inv X pins σ (upd H s.heap.objs.size (.tup [.int (i : Nat), x])) { s with heap:=h'', toks:=tk + 1 } :=
   I.turnedNew (ch:=[e, it]) (fun c ob hb q => (sb.2 c fun z => hb (by simp [z])).trans (hk c ob (fun z => hb (by simp [z])) (fun z => hb (by simp [z])) q)) hf (Nat.le_refl _) new
  refine ⟨.ref s.heap.objs.size, _, I1, rfl, ⟨_, x, rfl, I.hok.fresh (Nat.le_refl _), rfl, fun ys hy => ?_⟩, ⟨⟨v, ?_⟩, st'.1.at fun o q => (sb.2 it (Ne.symm hne)).trans q, hne, hai, hae⟩, fun c hb => ?_⟩
  ·rw [inj_b I hy hq]
   exact hx
  ·have e1 : ((i + 1 : Nat) : Int) = (i : Int) + 1:=by omega
   rw [e1]
   exact he'
  ·have hb' : c < s.heap.objs.size:=by
    have z : c = e ∨ c = it:=by simpa using hb
    rcases z with z | z
    ·rw [z]; exact hel
    ·rw [z]; exact hil
   rw [upd_ne (Nat.ne_of_lt hb')]
   exact (hf c hb).1
 done:=by
  intro X hP hw hK hc i pins s σ H E I hf st hg
  subst hP hw hK
  obtain ⟨⟨old, he⟩, hit, hne, hai, hae⟩:=st
  obtain ⟨xs, hq, hx⟩:=hg
  obtain ⟨its, rv, p, hz⟩:=inv_b I hq
  obtain ⟨f0, f1, f2, f3, f4, f5⟩:=hf it (by simp)
  have hl:=rv.length
  have hn : its.toArray.size = i:=by
   rw [List.size_toArray]
   omega
  refine wpAny_pyNext_enum_endD (draws_b (A:=X.A.in1) (I.ok.hd hc) it a hai its.toArray b) he ⟨by rw [hn]; exact hit, p⟩ fun h' eb => ⟨rfl, ?_⟩
  exact I.turned (t':=s.toks) (fun c o hb q => eb c o hb q) f0 f1 f3 f4 f5
 self:=fun A i s Q E st h => let ⟨⟨_, he⟩, _⟩:=st; wpAny_pyIter_enum he h
theorem enum_newT (l : Addr) (its : Array Value) : Meets (Builtin.«enumerate.__new__» ⟨[.type "enumerate", .ref l], []⟩) (fun _ R s => s.heap.IsTuple l its ∧
  R (.ok (.ret (.ref (s.heap.push (itObj l true)).objs.size))) { s with heap:=(s.heap.push (itObj l true)).push ⟨.type "enumerate", none, .fields #[.none, .bool false, .ref s.heap.objs.size, rawInt 0, .none, .none], #[]⟩ }) :=
 .of_wp fun prog w A R s h => by
  obtain ⟨hp, g, d, tk, os⟩:=s
  obtain ⟨h1, h⟩:=h
  have hsub:=sub_enumerate
  obtain ⟨o, ho, oc, n, od⟩:=id h1
  obtain ⟨c, dct, dt, sl⟩:=o
  replace oc : c = .type "tuple":=oc
  replace od : dt = .seq its n:=od
  subst oc od
  have hL : Heap.IsTuple (Shared.heap ⟨hp, g, d, tk, os⟩) l its:=h1
  wp_walk using wpAny_loadPart' ho
  refine wpAny_stack_any fun st => wpAny_pure ?_
  split
  ·rename_i c _ _ _ _ _
   cases (c == Value.type "enumerate")
   ·wp_walk using wpAny_loadPart' ho, wpAny_pyIter_tuple hL
    exact ⟨_, rfl, h⟩
   ·wp_walk using wpAny_loadPart' ho, wpAny_pyIter_tuple hL
    exact ⟨_, rfl, h⟩
  ·wp_walk using wpAny_loadPart' ho, wpAny_pyIter_tuple hL
   exact ⟨_, rfl, h⟩
theorem call_enumT {prog : Program} {w : World} {A : Around} {E : Value → Shared → Prop} {s : Shared} {l : Addr} {its : Array Value} {Q : Value → Shared → Prop} (h1 : s.heap.IsTuple l its)
  (h : ∀ h', IsEnum h' (s.heap.objs.size + 1) s.heap.objs.size 0 .none → HIt h' s.heap.objs.size l 0 true → (∀ b o, s.heap.get? b = some o → h'.get? b = some o) → Q (.ref (s.heap.objs.size + 1)) { s with heap:=h' }) :
  wpAny (model prog w) A (call (.type "enumerate") [.ref l]) Q E s:=by
 refine callType_new F.called_enumerate (by decide) (F.typeCall_enumerate_1 _) (F.newCall_enumerate_1 _) (fun obj => F.args_object_init_2 obj _) F.entry_enumerate_new (enum_newT l its) ⟨h1, ?_⟩
 have hz : (s.heap.push (itObj l true)).objs.size = s.heap.objs.size + 1:=Heap.size_push ..
 show _ ∧ _
 rw [hz]
 have he : IsEnum ((s.heap.push (itObj l true)).push ⟨.type "enumerate", none, .fields #[.none, .bool false, .ref s.heap.objs.size, rawInt 0, .none, .none], #[]⟩) (s.heap.objs.size + 1) s.heap.objs.size 0 .none:=by
  have:=Heap.get?_push_size (s.heap.push (itObj l true)) (o:=⟨.type "enumerate", none, .fields #[.none, .bool false, .ref s.heap.objs.size, rawInt 0, .none, .none], #[]⟩) rfl
  rw [hz] at this
  exact this
 exact ⟨⟨_, he, rfl⟩, h _ he (hit_of (Heap.get?_push_of_some _ (Heap.get?_push_size _ rfl))) fun b o x => Heap.get?_push_of_some _ (Heap.get?_push_of_some _ x)⟩
theorem call_enumB {prog : Program} {w : World} {A : Around} {E : Value → Shared → Prop} {s : Shared} {l : Addr} {its : Array Value} {Q : Value → Shared → Prop} : ∀ {b : Bool}, HSq s.heap l its b →
  (∀ h', IsEnum h' (s.heap.objs.size + 1) s.heap.objs.size 0 .none → HIt h' s.heap.objs.size l 0 b → (∀ b o, s.heap.get? b = some o → h'.get? b = some o) → Q (.ref (s.heap.objs.size + 1)) { s with heap:=h' }) →
  wpAny (model prog w) A (call (.type "enumerate") [.ref l]) Q E s
 | false, h1, h => call_enumerate_list h1 fun h' he hit _ hk => h h' he hit hk
 | true, h1, h => call_enumT h1 h
def iEnB (K : PySem.W.Frag) (ta : TA) : TI:=fun σ H R => ta σ H fun vs H1 => ∃ a xs b, vs = [.ref a] ∧ SqB K H1 a xs b ∧ R (IteB K a b) H1
theorem pi_enB {X : Cx} {e : Expr} {ta : TA} {p pos tpos : Pos} {elts : List Expr} {kk : Nat} (hg : Gl X "enumerate") (hm : X.mg "enumerate" = none) (ha : PA X [e] ta) (hs : starEach [e] X.env = [(false, eval e X.env)]:=by rfl) :
  PI X (.Tuple elts kk tpos) (.Call (.Name "enumerate" p) [e] [] pos) (iEnB X.K ta):=by
 refine ⟨fun pins s σ H R I h => ?_⟩
 refine Call_ (ld_blt I hg hm boot_enumerate (PyProof.Rows.callWith_type1 (thn (ha.run pos pins s σ H _ I h) fun us s1 ⟨vs, H1, I1, r1, q1⟩ => ?_) hs rfl))
 obtain ⟨a, xs, b, ex, hq, q⟩:=q1
 subst ex
 cases r1 with
 | cons r rr =>
  cases rr
  cases r
  obtain ⟨its, rv, p', hz⟩:=inv_b I1 hq
  have hal : a < s1.heap.objs.size:=p'.lt
  refine call_enumB p' fun h' he hit hk => wpAny_pyIter_enum he ?_
  have I2 : Inv X pins σ H1 { s1 with heap:=h' }:=I1.kept (t':=s1.toks) hk
  refine ⟨s1.heap.objs.size + 1, [s1.heap.objs.size + 1, s1.heap.objs.size], _, _, H1, rfl, I2, turn_enumB b a (s1.heap.objs.size + 1) s1.heap.objs.size, ⟨⟨.none, he⟩, hit, Nat.succ_ne_self _, Nat.ne_of_lt hal, Nat.ne_of_lt (Nat.lt_succ_of_lt hal)⟩, fun c hb => ?_, q⟩
  have hle : s1.heap.objs.size ≤ c:=by
   have z : c = s1.heap.objs.size + 1 ∨ c = s1.heap.objs.size:=by simpa using hb
   rcases z with z | z
   ·rw [z]; exact Nat.le_add_right _ _
   ·rw [z]; exact Nat.le_refl _
  exact I1.fpOk hle (I1.hok.fresh hle)

def ItzB (K : PySem.W.Frag) (a b : Addr) (p q : Bool) : It :=
 ⟨fun i H => ∃ (xs ys : List V) (x y : V), SqB K H a xs p ∧ SqB K H b ys q ∧ xs[i]? = some x ∧ ys[i]? = some y,
  fun i H v H' => ∃ T x y, v = .ref T ∧ H T = none ∧ H' = upd H T (.tup [x, y]) ∧ (∀ xs, SqB K H a xs p → xs[i]? = some x) ∧ ∀ ys, SqB K H b ys q → ys[i]? = some y,
  fun i H => ∃ xs ys : List V, SqB K H a xs p ∧ SqB K H b ys q ∧ i ≤ xs.length ∧ i ≤ ys.length ∧ (i = xs.length ∨ i = ys.length)⟩
theorem sep_of {I a b : Nat} (ha : a < I) (hb : b < I) : ZipSep2 (I + 4) (I + 2) (I + 3) I (I + 1) [I, a] [I + 1, b]:=by
 have m : ∀ {x y z : Nat}, x ≠ y → x ≠ z → x ∉ ([y, z] : List Addr):=fun h1 h2 h => by
  rcases List.mem_cons.mp h with h | h
  ·exact h1 h
  ·exact h2 (List.mem_singleton.mp h)
 have n : ∀ {x y : Nat}, x ≠ y → (x : Addr) ≠ y:=fun h => h
 exact ⟨n (by omega), n (by omega), n (by omega), n (by omega), List.mem_cons_self, m (by omega) (by omega), m (by omega) (by omega), n (by omega), List.mem_cons_self, m (by omega) (by omega), m (by omega) (by omega), m (by omega) (by omega), m (by omega) (by omega)⟩
theorem turn_zipB {P : Program} {w : World} {K : PySem.W.Frag} {elts : List Expr} {kk : Nat} {tpos : Pos} (p q : Bool) {a b z TI TO i1 i2 : Addr} (D : ZipSep2 z TI TO i1 i2 [i1, a] [i2, b]) (ha : a ≠ i1) (hb : b ≠ i2) :
  Turn P w K (.Tuple elts kk tpos) (ItzB K a b p q) [z, TI, TO, i1, i2] z (fun i h => IsZip h z TI TO .none ∧ IsTupOf2 h TI (.ref i1) (.ref i2) ∧ (∃ x y, IsTupOf2 h TO x y) ∧ HIt h i1 a i p ∧ HIt h i2 b i q) where
 mem:=by simp
 obj:=fun i h st c hc => by
  obtain ⟨hz, hTI, ⟨x, y, hTO⟩, h1, h2⟩:=st
  have e' : c = z ∨ c = TI ∨ c = TO ∨ c = i1 ∨ c = i2:=by simpa using hc
  rcases e' with w | w | w | w | w
  ·subst w; exact ⟨_, hz, fun v q => nomatch q⟩
  ·subst w; exact ⟨_, hTI, fun v q => nomatch q⟩
  ·subst w; exact ⟨_, hTO, fun v q => nomatch q⟩
  ·subst w; exact h1.obj
  ·subst w; exact h2.obj
 keep:=fun i h h' st k => by
  obtain ⟨hz, hTI, ⟨x, y, hTO⟩, h1, h2⟩:=st
  exact ⟨k z (by simp) _ hz, k TI (by simp) _ hTI, ⟨x, y, k TO (by simp) _ hTO⟩, h1.at fun o e => k i1 (by simp) o e, h2.at fun o e => k i2 (by simp) o e⟩
 item:=by
  intro X hP hw hK hc i pins s σ H E I hf st hg
  subst hP hw hK
  obtain ⟨hz, hTI, ⟨x0, y0, hTO⟩, h1, h2⟩:=st
  obtain ⟨xs, ys, x, y, hqx, hqy, hx, hy⟩:=hg
  obtain ⟨its, rv, p1, _⟩:=inv_b I hqx
  obtain ⟨its2, rv2, p2, _⟩:=inv_b I hqy
  obtain ⟨u, hu, ru⟩:=rv.get hx
  obtain ⟨u2, hu2, ru2⟩:=rv2.get hy
  have hzl : z < s.heap.objs.size:=Heap.lt_size hz
  have hl1 : i < its.toArray.size:=by simpa using (List.getElem?_eq_some_iff.mp hu).1
  have hl2 : i < its2.toArray.size:=by simpa using (List.getElem?_eq_some_iff.mp hu2).1
  have hh:=I.ok.hd hc
  refine wpAny_pyNext_zipD2_item D (draws_b (A:=X.A.in1) hh i1 a ha its.toArray p) (draws_b (A:=X.A.in1) hh i2 b hb its2.toArray q) hz hTI hTO ⟨h1, p1⟩ ⟨h2, p2⟩ hl1 hl2 fun v1 v2 h' tk e1 e2 z' TO' s1' s2' hT hsz hk => ?_
  have ev1 : v1 = u:=by
   have h1 : its[i]? = some v1:=by simpa using e1
   rw [hu] at h1
   exact (Option.some.inj h1).symm
  have ev2 : v2 = u2:=by
   have h1 : its2[i]? = some v2:=by simpa using e2
   rw [hu2] at h1
   exact (Option.some.inj h1).symm
  subst ev1 ev2
  refine ⟨_, rfl, wpAny_letOwnedTupleGo_zip (s:={ s with heap:=h', toks:=tk }) z' fun h'' z'' sb => ?_⟩
  have hT2 : h''.get? s.heap.objs.size = some { cls:=.type "tuple", data:=.seq #[v1, v2] }:=(sb.2 _ (Nat.ne_of_gt hzl)).trans hT
  have new : ObjOk X.prog X.w (upd H s.heap.objs.size (.tup [x, y])) h'' s.heap.objs.size (.tup [x, y]) :=
   ⟨(by show 2 ≤ sizeLine; exact lim_le (by decide)), [v1, v2], .cons ru (.cons ru2 .nil), _, hT2, rfl, _, rfl⟩
  have I1 : Inv X pins σ (upd H s.heap.objs.size (.tup [x, y])) { s with heap:=h'', toks:=tk } :=
   I.turnedNew (ch:=[z, TI, TO, i1, i2]) (fun c o hb e => (sb.2 c (fun e' => hb (by simp [e']))).trans (hk c o (fun e' => hb (by simp [e'])) (fun e' => hb (by simp [e'])) (fun e' => hb (by simp [e'])) (fun e' => hb (by simp [e'])) e)) hf (Nat.le_refl _) new
  refine ⟨.ref s.heap.objs.size, _, I1, rfl, ⟨_, x, y, rfl, I.hok.fresh (Nat.le_refl _), rfl, fun l hl => ?_, fun l hl => ?_⟩, ⟨z'', ?_, ⟨v1, v2, ?_⟩, ?_, ?_⟩, fun c hcm => ?_⟩
  ·rw [inj_b I hl hqx]
   exact hx
  ·rw [inj_b I hl hqy]
   exact hy
  ·exact (sb.2 _ D.TIz).trans (hk _ _ D.TIz D.TITO D.TIi1 D.TIi2 hTI)
  ·exact (sb.2 _ D.TOz).trans TO'
  ·exact s1'.1.at fun o e => (sb.2 _ (Ne.symm D.zi1)).trans e
  ·exact s2'.1.at fun o e => (sb.2 _ (Ne.symm D.zi2)).trans e
  ·have hlt : c < s.heap.objs.size:=by
    have e' : c = z ∨ c = TI ∨ c = TO ∨ c = i1 ∨ c = i2:=by simpa using hcm
    obtain ⟨o1, e1, _⟩:=h1.obj
    obtain ⟨o2, e2, _⟩:=h2.obj
    rcases e' with w | w | w | w | w
    ·rw [w]; exact hzl
    ·rw [w]; exact Heap.lt_size hTI
    ·rw [w]; exact Heap.lt_size hTO
    ·rw [w]; exact Heap.lt_size e1
    ·rw [w]; exact Heap.lt_size e2
   rw [upd_ne (Nat.ne_of_lt hlt)]
   exact (hf c hcm).1
 done:=by
  intro X hP hw hK hc i pins s σ H E I hf st hg
  subst hP hw hK
  obtain ⟨hz, hTI, ⟨x0, y0, hTO⟩, h1, h2⟩:=st
  obtain ⟨xs, ys, hqx, hqy, e1, e2, hend⟩:=hg
  obtain ⟨its, rv, p1, _⟩:=inv_b I hqx
  obtain ⟨its2, rv2, p2, _⟩:=inv_b I hqy
  have l1:=rv.length
  have l2:=rv2.length
  have hh:=I.ok.hd hc
  have n1 : its.toArray.size = xs.length:=by rw [List.size_toArray]; exact l1.symm
  have n2 : its2.toArray.size = ys.length:=by rw [List.size_toArray]; exact l2.symm
  refine wpAny_pyNext_zipD2_end D (draws_b (A:=X.A.in1) hh i1 a ha its.toArray p) (draws_b (A:=X.A.in1) hh i2 b hb its2.toArray q) hz hTI hTO ⟨h1, p1⟩ ⟨h2, p2⟩ (by rw [n1]; exact e1) (by rw [n2]; exact e2) (by rw [n1, n2]; exact hend) fun h' tk hk => ⟨rfl, ?_⟩
  exact I.turnedL (t':=tk) (ch:=[z, TI, TO, i1, i2]) (fun c o hb e => hk c o (fun e' => hb (by simp [e'])) (fun e' => hb (by simp [e'])) (fun e' => hb (by simp [e'])) (fun e' => hb (by simp [e'])) e) hf
 self:=fun A i s Q E st h => wpAny_pyIter_zip st.1 h
def iZipB (K : PySem.W.Frag) (ta : TA) : TI:=fun σ H R => ta σ H fun vs H1 => ∃ a b xs ys p q, vs = [.ref a, .ref b] ∧ SqB K H1 a xs p ∧ SqB K H1 b ys q ∧ R (ItzB K a b p q) H1
theorem pi_zipB {X : Cx} {e e2 : Expr} {ta : TA} {pp pos tpos : Pos} {elts : List Expr} {kk : Nat} (hg : Gl X "zip") (hm : X.mg "zip" = none) (ha : PA X [e, e2] ta)
  (hs : starEach [e, e2] X.env = (false, eval e X.env) :: starEach [e2] X.env:=by rfl) (hpl : (backTo pos (starEach [e2] X.env)).any (·.1) = false:=by rfl) :
  PI X (.Tuple elts kk tpos) (.Call (.Name "zip" pp) [e, e2] [] pos) (iZipB X.K ta):=by
 refine ⟨fun pins s σ H R I h => ?_⟩
 refine Call_ (ld_blt I hg hm PyProof.Rows.boot_zip (PyProof.Rows.callWith_type1 (thn (ha.run pos pins s σ H _ I h) fun us s1 ⟨vs, H1, I1, r1, q1⟩ => ?_) hs hpl))
 obtain ⟨a, b, xs, ys, p, q, ex, hqx, hqy, q1⟩:=q1
 subst ex
 cases r1 with
 | cons r rr =>
  cases rr with
  | cons r' rr =>
   cases rr
   cases r
   cases r'
   have fresh5 : ∀ c, c ∈ [s1.heap.objs.size + 4, s1.heap.objs.size + 2, s1.heap.objs.size + 3, s1.heap.objs.size, s1.heap.objs.size + 1] → FpOk X pins H1 c:=fun c hcm => by
    have e' : c = s1.heap.objs.size + 4 ∨ c = s1.heap.objs.size + 2 ∨ c = s1.heap.objs.size + 3 ∨ c = s1.heap.objs.size ∨ c = s1.heap.objs.size + 1:=by simpa using hcm
    have hle : s1.heap.objs.size ≤ c:=by
     rcases e' with w | w | w | w | w <;> rw [w] <;> first | exact Nat.le_add_right _ _ | exact Nat.le_refl _
    exact I1.fpOk hle (I1.hok.fresh hle)
   obtain ⟨its, rv, p1, _⟩:=inv_b I1 hqx
   obtain ⟨its2, rv2, p2, _⟩:=inv_b I1 hqy
   have la:=p1.lt
   have lb:=p2.lt
   refine zip_begins2 (begins_b a its.toArray p) (begins_b b its2.toArray q) p1 p2 fun h' hz hTI hTO h1 h2 hsz hk => wpAny_pyIter_zip hz ?_
   have I2 : Inv X pins σ H1 { s1 with heap:=h' }:=I1.kept (t':=s1.toks) hk
   exact ⟨s1.heap.objs.size + 4, [s1.heap.objs.size + 4, s1.heap.objs.size + 2, s1.heap.objs.size + 3, s1.heap.objs.size, s1.heap.objs.size + 1], _, _, H1, rfl, I2, turn_zipB p q (sep_of la lb) (Nat.ne_of_lt la) (Nat.ne_of_lt (Nat.lt_succ_of_lt lb)), ⟨hz, hTI, ⟨_, _, hTO⟩, hit_of h1, hit_of h2⟩, fresh5, q1⟩

section
variable {T : Tb} {X : Cx} {Wx : WX} {ga : FA}
theorem sqb_of {K : PySem.W.Frag} {F : Hp} {d : D} {v : V} {ds : List D} (r : Rep K F d v) (h : seqOf d = some ds) : ∃ a vs b, v = .ref a ∧ SqB K F a vs b ∧ Reps K F ds vs:=by
 cases r with
 | lst h1 r1 =>
  cases h
  exact ⟨_, _, false, rfl, .of h1, r1⟩
 | tup h1 r1 =>
  cases h
  exact ⟨_, _, true, rfl, h1.sq, r1⟩
 | _ => cases h
def nums : Nat → List D → List D
 | _, [] => []
 | i, d :: ds => .tup .key [.int i, d] :: nums (i + 1) ds
theorem nums_get : ∀ (i j : Nat) (ds : List D) (d : D), (nums i ds)[j]? = some d → ∃ e, ds[j]? = some e ∧ d = .tup .key [.int ((i + j : Nat) : Int), e]
 | _, _, [], _, h => by simp [nums] at h
 | i, 0, e :: ds, d, h => by
  simp [nums] at h
  exact ⟨e, rfl, by rw [← h]; simp⟩
 | i, j + 1, e :: ds, d, h => by
  obtain ⟨e', h1, h2⟩:=nums_get (i + 1) j ds d (by simpa [nums] using h)
  refine ⟨e', by simpa using h1, ?_⟩
  rw [h2]
  congr 4
  omega
theorem nums_len : ∀ (i : Nat) (ds : List D), (nums i ds).length = ds.length
 | _, [] => rfl
 | i, d :: ds => congrArg Nat.succ (nums_len (i + 1) ds)
theorem relI_enum {K : PySem.W.Frag} {F : Hp} {A : List (List Addr)} {a : Addr} {vs : List V} {ds : List D} {b : Bool} (h : SqB K F a vs b) (r : Reps K F ds vs) : relI T K F A (.ds (nums 0 ds)) (IteB K a b):=by
 intro G F' A' S' H' e p w ds' z i
 cases z
 have hH : SqB K H' a vs b:=(h.mono e).mono w.sub
 refine ⟨fun d hd => ?_, fun hi => ?_⟩
 ·obtain ⟨d', h1, rfl⟩:=nums_get 0 i ds d hd
  obtain ⟨v, h2, h3⟩:=r.get h1
  refine ⟨⟨vs, v, hH, h2⟩, fun x H'' ⟨t, y, q1, q2, q3, q4⟩ => ?_⟩
  subst q1 q3
  have:=q4 vs hH
  rw [h2] at this
  cases this
  refine ⟨_, w.exNew q2 _, w.new q2 _, .tup (f:=.key) upd_same (.cons ?_ (.cons (h3.mono (e.trans (w.exNew q2 _))) .nil))⟩
  rw [Nat.zero_add]
  exact .int _
 ·rw [nums_len, r.length] at hi
  exact ⟨vs, hH, hi⟩
def frds (S : Sto) : List W → Option (List D)
 | [] => some []
 | w :: ws => (frd S w).bind fun d => (frds S ws).bind fun ds => some (d :: ds)
theorem frds_rep {K : PySem.W.Frag} {F H : Hp} {A : List (List Addr)} {S : Sto} (hw : Wd T K F A S H) : ∀ {ws : List W} {vs : List V} {ds : List D}, RepWs K F A ws vs → frds S ws = some ds → Reps K F ds vs
 | _, _, _, .nil, h => by
  cases h
  exact .nil
 | w :: ws, _, _, .cons r rr, h => by
  simp only [frds] at h
  cases h1 : frd S w with
  | none => rw [h1] at h; cases h
  | some d =>
   cases h2 : frds S ws with
   | none => rw [h1, h2] at h; cases h
   | some r' =>
    rw [h1, h2] at h
    cases h
    exact .cons (frd_rep hw r h1) (frds_rep hw rr h2)
def one {α : Type} (g : D → Option α) : List D → Option α
 | [d] => g d
 | _ => none
def two {α : Type} (g : D → D → Option α) : List D → Option α
 | [d, e] => g d e
 | _ => none
theorem one_some {α : Type} {g : D → Option α} {ds : List D} {a : α} (h : one g ds = some a) : ∃ d, ds = [d] ∧ g d = some a:=by
 unfold one at h
 split at h
 ·exact ⟨_, rfl, h⟩
 ·cases h
theorem two_some {α : Type} {g : D → D → Option α} {ds : List D} {a : α} (h : two g ds = some a) : ∃ d e, ds = [d, e] ∧ g d e = some a:=by
 unfold two at h
 split at h
 ·exact ⟨_, _, rfl, h⟩
 ·cases h
def iFr (g : List D → Option (List D)) (f : FA) : FI:=fun ρ S => (f ρ S).bind fun ws S1 => R.lift (((frds S1 ws).bind g).map Wk.ds) S1
def enumD : D → Option (List D):=fun d => (seqOf d).map (nums 0)
def pairs : List D → List D → List D
 | x :: xs, y :: ys => .tup .key [x, y] :: pairs xs ys
 | _, _ => []
def zipD : D → D → Option (List D):=fun d e => (seqOf d).bind fun xs => (seqOf e).map (pairs xs)
theorem ji_enum {elts : List Expr} {kk : Nat} {tpos p pos : Pos} {e : Expr} (hm : X.mg "enumerate" = none) (ha : JA T X Wx [e] ga) (hg : Gl X "enumerate":=by rfl) (hs : starEach [e] X.env = [(false, eval e X.env)]:=by rfl) :
  JI T X Wx (.Tuple elts kk tpos) (.Call (.Name "enumerate" p) [e] [] pos) (iFr (one enumD) ga):=by
 obtain ⟨t, h1, s1⟩:=ha
 refine ⟨_, pi_enB hg hm h1 hs, fun G F A S H σ ρ Q hw hs hp => ?_⟩
 refine s1 G F A S H σ ρ _ hw hs (hp.bind fun ws S1 F1 A1 H1 v e1 p1 w1 r1 hp1 => ?_)
 obtain ⟨wk, h2, q⟩:=hp1.lift
 cases h3 : frds S1 ws with
 | none => rw [h3] at h2; cases h2
 | some es =>
  rw [h3, Option.bind_some] at h2
  have rr:=frds_rep w1 r1 h3
  cases h0 : one enumD es with
  | none => rw [h0] at h2; cases h2
  | some ds =>
  rw [h0] at h2
  cases h2
  obtain ⟨d, rfl, h4⟩:=one_some h0
  obtain ⟨u, rfl, ru⟩:=rr.one
  unfold enumD at h4
  cases h5 : seqOf d with
  | none => rw [h5] at h4; cases h4
  | some xs =>
   rw [h5] at h4
   cases h4
   obtain ⟨a, vs, b, rfl, hq, rq⟩:=sqb_of ru h5
   exact ⟨a, vs, b, rfl, hq.mono w1.sub, q F1 A1 H1 _ (Evl.Ex.refl _) (Pre.refl _) w1 (relI_enum hq rq)⟩
theorem pairs_get : ∀ (j : Nat) (xs ys : List D) (d : D), (pairs xs ys)[j]? = some d → ∃ x y, xs[j]? = some x ∧ ys[j]? = some y ∧ d = .tup .key [x, y]
 | _, [], _, _, h => by simp [pairs] at h
 | _, _ :: _, [], _, h => by simp [pairs] at h
 | 0, x :: xs, y :: ys, d, h => by
  simp [pairs] at h
  exact ⟨x, y, rfl, rfl, h.symm⟩
 | j + 1, x :: xs, y :: ys, d, h => by
  obtain ⟨x', y', h1, h2, h3⟩:=pairs_get j xs ys d (by simpa [pairs] using h)
  exact ⟨x', y', by simpa using h1, by simpa using h2, h3⟩
theorem pairs_len : ∀ (xs ys : List D), (pairs xs ys).length = min xs.length ys.length
 | [], _ => by simp [pairs]
 | _ :: _, [] => by simp [pairs]
 | x :: xs, y :: ys => by
  simp only [pairs, List.length_cons, pairs_len xs ys]
  omega
theorem relI_zip {K : PySem.W.Frag} {F : Hp} {A : List (List Addr)} {a b : Addr} {vs us : List V} {xs ys : List D} {p q : Bool} (h : SqB K F a vs p) (h' : SqB K F b us q) (r : Reps K F xs vs) (r' : Reps K F ys us) : relI T K F A (.ds (pairs xs ys)) (ItzB K a b p q):=by
 intro G F' A' S' H' e pp w ds' z i
 cases z
 have hH : SqB K H' a vs p:=(h.mono e).mono w.sub
 have hH' : SqB K H' b us q:=(h'.mono e).mono w.sub
 refine ⟨fun d hd => ?_, fun hi => ?_⟩
 ·obtain ⟨x, y, h1, h2, rfl⟩:=pairs_get i xs ys d hd
  obtain ⟨v, h3, h4⟩:=r.get h1
  obtain ⟨u, h5, h6⟩:=r'.get h2
  refine ⟨⟨vs, us, v, u, hH, hH', h3, h5⟩, fun x H'' ⟨t, x', y', q1, q2, q3, q4, q5⟩ => ?_⟩
  subst q1 q3
  have z1:=q4 vs hH
  have z2:=q5 us hH'
  rw [h3] at z1
  rw [h5] at z2
  cases z1
  cases z2
  exact ⟨_, w.exNew q2 _, w.new q2 _, .tup (f:=.key) upd_same (.cons (h4.mono (e.trans (w.exNew q2 _))) (.cons (h6.mono (e.trans (w.exNew q2 _))) .nil))⟩
 ·rw [pairs_len, r.length, r'.length] at hi
  exact ⟨vs, us, hH, hH', by omega, by omega, by omega⟩
theorem ji_zip {elts : List Expr} {kk : Nat} {tpos p pos : Pos} {e e2 : Expr} (hm : X.mg "zip" = none) (ha : JA T X Wx [e, e2] ga) (hg : Gl X "zip":=by rfl) (hs : starEach [e, e2] X.env = (false, eval e X.env) :: starEach [e2] X.env:=by rfl)
  (hpl : (backTo pos (starEach [e2] X.env)).any (·.1) = false:=by rfl) : JI T X Wx (.Tuple elts kk tpos) (.Call (.Name "zip" p) [e, e2] [] pos) (iFr (two zipD) ga):=by
 obtain ⟨t, h1, s1⟩:=ha
 refine ⟨_, pi_zipB hg hm h1 hs hpl, fun G F A S H σ ρ Q hw hs hp => ?_⟩
 refine s1 G F A S H σ ρ _ hw hs (hp.bind fun ws S1 F1 A1 H1 v e1 p1 w1 r1 hp1 => ?_)
 obtain ⟨wk, h2, q⟩:=hp1.lift
 cases h3 : frds S1 ws with
 | none => rw [h3] at h2; cases h2
 | some es =>
  rw [h3, Option.bind_some] at h2
  have rr:=frds_rep w1 r1 h3
  cases h0 : two zipD es with
  | none => rw [h0] at h2; cases h2
  | some ds =>
  rw [h0] at h2
  cases h2
  obtain ⟨d, d2, rfl, h4⟩:=two_some h0
  obtain ⟨u, u2, rfl, ru, ru2⟩:=rr.two
  unfold zipD at h4
  cases h5 : seqOf d with
  | none => rw [h5] at h4; cases h4
  | some xs =>
   cases h6 : seqOf d2 with
   | none => rw [h5, h6] at h4; cases h4
   | some ys =>
    rw [h5, h6] at h4
    cases h4
    obtain ⟨a, vs, b, rfl, hq, rq⟩:=sqb_of ru h5
    obtain ⟨a2, vs2, b2, rfl, hq2, rq2⟩:=sqb_of ru2 h6
    exact ⟨a, a2, vs, vs2, b, b2, rfl, hq.mono w1.sub, hq2.mono w1.sub, q F1 A1 H1 _ (Evl.Ex.refl _) (Pre.refl _) w1 (relI_zip hq hq2 rq rq2)⟩
end
end Vz
namespace Vz
open PySem PySem.Spec PyProof.Rows L2
section
variable {T : Tb} {X : Cx} {Wx : WX} {a b : Expr} {fa fb : FE} {pos : Pos}

theorem atI_rep {K : PySem.W.Frag} {F : Hp} {ds : List D} {vs : List V} (r : Reps K F ds vs) {i : Int} {d : D} (e : atI ds i = some d) : ∃ v, atI vs i = some v ∧ Rep K F d v:=by
 unfold atI at e ⊢
 rw [← r.length]
 cases h : ixN ds.length i with
 | none => rw [h] at e; cases e
 | some j =>
  rw [h] at e
  exact r.get e
def ixD : D → D → Option D
 | .list xs, .int i => atI xs i
 | .tup _ xs, .int i => atI xs i
 | .str z, .int i => ifO (decide (z.length ≤ lim)) ((atI z.cps.toList i).map fun c => .str ⟨#[c]⟩)
 | _, _ => none
theorem l_ix {K : PySem.W.Frag} : OpL T K (rIx K) ixD:=by
 intro G F A S H x y dx dy z Q hw rx ry e q
 unfold ixD at e
 split at e
 ·cases ry with
  | flat h2 =>
   cases h2
   cases rx with
   | flat h1 => cases h1
   | lst h1 r1 =>
    obtain ⟨v, h3, h4⟩:=atI_rep r1 e
    exact .inl ⟨_, _, _, v, rfl, rfl, .of h1, h3, q F H v (Evl.Ex.refl F) hw h4⟩
 ·cases ry with
  | flat h2 =>
   cases h2
   cases rx with
   | flat h1 => cases h1
   | tup f1 h1 r1 =>
    obtain ⟨v, h3, h4⟩:=atI_rep r1 e
    exact .inr (.inl ⟨_, _, _, v, rfl, rfl, h1, h3, q F H v (Evl.Ex.refl F) hw h4⟩)
 ·rename_i s i
  obtain ⟨c, e⟩:=ifO_some e
  cases ry with
  | flat h2 =>
   cases h2
   cases rx with
   | flat h1 =>
    cases h1
    cases h3 : atI s.cps.toList i with
    | none => rw [h3] at e; cases e
    | some cp =>
     rw [h3] at e
     cases e
     exact .inr (.inr ⟨_, _, cp, rfl, rfl, lim_le (of_decide_eq_true c), h3, q F H _ (Evl.Ex.refl F) hw (.str _)⟩)
 ·cases e
theorem je_ix (ha : JE T X Wx a fa) (hb : JE T X Wx b fb) (hs : PlainIx b:=by intro _ _; rfl) : JE T X Wx (.Subscript a b pos) (fBin ixD fa fb):=by
 obtain ⟨ta, h1, s1⟩:=ha
 obtain ⟨tb, h2, s2⟩:=hb
 exact ⟨_, pe_ix ix_seq h1 h2 hs, semE_op s1 s2 l_ix⟩

section
variable {κ : Type} [DecidableEq κ]
def valD : List (κ × D) → κ → Option D
 | [], _ => none
 | (k, d) :: r, x => match decide (k = x) with
  | true => some d
  | false => valD r x
def putD (ps : List (κ × D)) (k : κ) (d : D) : List (κ × D):=match ps.any fun p => decide (p.1 = k) with
 | true => ps.map fun p => if p.1 = k then (p.1, d) else p
 | false => ps ++ [(k, d)]
end
def keyOf : D → Option Key
 | .int i => some (.inl i)
 | .str x => some (.inr x)
 | _ => none
def keysOf : List D → Option (List Key)
 | [] => some []
 | d :: ds => (keyOf d).bind fun k => (keysOf ds).bind fun ks => some (k :: ks)
theorem keyOf_rep {K : PySem.W.Frag} {F H : Hp} {d : D} {v : V} {k : Key} (r : RepU K F H d v) (e : keyOf d = some k) : v = kV k:=by
 unfold keyOf at e
 split at e
 ·cases e
  exact r.flat_of rfl
 ·cases e
  exact r.flat_of rfl
 ·cases e
theorem keysOf_rep {K : PySem.W.Frag} {F : Hp} : ∀ {ds : List D} {vs : List V} {ks : List Key}, Reps K F ds vs → keysOf ds = some ks → vs = ks.map kV
 | _, _, _, .nil, e => by
  cases e
  rfl
 | d :: ds, _, _, .cons r rr, e => by
  simp only [keysOf] at e
  cases h1 : keyOf d with
  | none => rw [h1] at e; cases e
  | some k =>
   cases h2 : keysOf ds with
   | none => rw [h1, h2] at e; cases e
   | some ks =>
    rw [h1, h2] at e
    cases e
    rw [keysOf_rep rr h2, keyOf_rep (r.u (Evl.Ex.refl F)) h1]
    rfl
theorem valD_T {K : PySem.W.Frag} {F : Hp} {k : List Key} {d : D} : ∀ {ps : List (List Key × D)} {ks : List (List Key × V)}, RepT K F ps ks → valD ps k = some d → ∃ v, valV ks k = some v ∧ Rep K F d v
 | _, _, .nil, e => by cases e
 | (k', d') :: ps, _, .cons r rr, e => by
  simp only [valD] at e
  cases h : decide (k' = k) with
  | true =>
   rw [h] at e
   cases e
   exact ⟨_, valV_pos (of_decide_eq_true h), r⟩
  | false =>
   rw [h] at e
   obtain ⟨v, h1, h2⟩:=valD_T rr e
   exact ⟨v, by rw [valV_neg (of_decide_eq_false h)]; exact h1, h2⟩
theorem valD_K {K : PySem.W.Frag} {F : Hp} {k : Key} {d : D} : ∀ {ps : List (Key × D)} {ks : List (Key × V)}, RepK K F ps ks → valD ps k = some d → ∃ v, valV ks k = some v ∧ Rep K F d v
 | _, _, .nil, e => by cases e
 | (k', d') :: ps, _, .cons r rr, e => by
  simp only [valD] at e
  cases h : decide (k' = k) with
  | true =>
   rw [h] at e
   cases e
   exact ⟨_, valV_pos (of_decide_eq_true h), r⟩
  | false =>
   rw [h] at e
   obtain ⟨v, h1, h2⟩:=valD_K rr e
   exact ⟨v, by rw [valV_neg (of_decide_eq_false h)]; exact h1, h2⟩
def dgetD : D → D → Option D
 | .dT ps, .tup .key ds => (keysOf ds).bind fun k => valD ps k
 | .dK ps, d => (keyOf d).bind fun k => valD ps k
 | _, _ => none
def rDG : R2:=fun x y H Q => ∃ a v, x = .ref a ∧ DGet H a y (some v) ∧ Q v H
theorem l_dget {K : PySem.W.Frag} : OpL T K rDG dgetD:=by
 intro G F A S H x y dx dy z Q hw rx ry e q
 unfold dgetD at e
 split at e
 ·rename_i ps ds
  cases h1 : keysOf ds with
  | none => rw [h1] at e; cases e
  | some k =>
   rw [h1, Option.bind_some] at e
   cases rx with
   | flat h => cases h
   | dT h2 r2 =>
    cases ry with
    | flat h => cases h
    | tup f3 h3 r3 =>
     obtain ⟨v, h4, h5⟩:=valD_T r2 e
     have h6:=hw.sub _ _ f3
     rw [keysOf_rep r3 h1] at h6
     exact ⟨_, v, rfl, .inr ⟨_, k, _, .of h2, rfl, h6, h4.symm⟩, q F H v (Evl.Ex.refl F) hw h5⟩
 ·rename_i ps
  cases h1 : keyOf dy with
  | none => rw [h1] at e; cases e
  | some k =>
   rw [h1, Option.bind_some] at e
   cases rx with
   | flat h => cases h
   | dK h2 r2 =>
    obtain ⟨v, h4, h5⟩:=valD_K r2 e
    exact ⟨_, v, rfl, .inl ⟨_, k, .of h2, keyOf_rep ry h1, h4.symm⟩, q F H v (Evl.Ex.refl F) hw h5⟩
 ·cases e
theorem je_dget (hu : X.A.units + 1 < cLine) (ha : JE T X Wx a fa) (hb : JE T X Wx b fb) (hs : NoSl b:=by intro _ _; rfl) : JE T X Wx (.Subscript a b pos) (fBin dgetD fa fb):=by
 obtain ⟨ta, h1, s1⟩:=ha
 obtain ⟨tb, h2, s2⟩:=hb
 exact ⟨_, pe_dget hu h1 h2 hs, semE_op (r:=rDG) s1 s2 l_dget⟩
def fDictT : FE:=fun _ S => .ok (.loc S.length 0) (S ++ [.dT []])
theorem je_dnewT : JE T X Wx (.Dict [] [] pos) fDictT:=by
 refine ⟨_, pe_dnewT, fun G F A S H σ ρ Q hw hs hp => ?_⟩
 intro p hpn
 refine hp F (A ++ [[p]]) _ _ (Evl.Ex.refl _) (Pre.push _ _) (hw.push hpn _ ⟨p, [], rfl, hw.freshF hpn, upd_same, .nil⟩) ⟨[p], p, ?_, rfl, rfl⟩
 rw [← hw.len, List.getElem?_concat_length]
structure JO (T : Tb) (X : Cx) (Wx : WX) (e : Option Expr) (f : Rho → Sto → R (Option Int)) : Prop where
 ex : ∃ t, PO X e t ∧ ∀ G F A S H σ ρ Q, Wd (T.g G) X.K F A S H → Sl X.K F A ρ σ → Post (T.g G) X.K (fun _ _ (x y : Option Int) => x = y) F A (f ρ S) Q (fun c d H' => Wx c d σ H') → t σ H Q
def fNo : Rho → Sto → R (Option Int):=fun _ S => .ok none S
def asI : W → Option Int
 | .dat (.int i) => some i
 | _ => none
def fYesI (f : FE) : Rho → Sto → R (Option Int):=fun ρ S => (f ρ S).bind fun w S1 => R.lift ((asI w).map some) S1
theorem jo_none : JO T X Wx none fNo:=⟨_, po_none, fun G F A S H σ ρ Q hw hs hp => hp F A H none (Evl.Ex.refl _) (Pre.refl _) hw rfl⟩
theorem jo_some (h : JE T X Wx a fa) : JO T X Wx (some a) (fYesI fa):=by
 obtain ⟨t, h1, s1⟩:=h
 refine ⟨_, po_some h1, fun G F A S H σ ρ Q hw hs hp => ?_⟩
 refine s1 G F A S H σ ρ _ hw hs (hp.bind fun w S1 F1 A1 H1 v1 e1 p1 w1 r1 hp1 => ?_)
 obtain ⟨o, h2, q⟩:=hp1.lift
 unfold asI at h2
 split at h2
 ·cases h2
  cases r1
  exact ⟨_, rfl, q F1 A1 H1 _ (Evl.Ex.refl _) (Pre.refl _) w1 rfl⟩
 ·cases h2
def cutL {α : Type} (xs : List α) (lo hi : Option Int) : List α:=(xs.drop (HT.sIx xs.length 0 lo)).take (HT.sIx xs.length xs.length hi - HT.sIx xs.length 0 lo)
def whole (n : Nat) (lo hi : Option Int) : Bool:=decide (HT.sIx n 0 lo = 0) && decide (HT.sIx n n hi = n)
def cutD (lo hi : Option Int) : D → Option D
 | .list xs => some (.list (cutL xs lo hi))
 | .tup f xs => some (match whole xs.length lo hi with
  | true => .tup f xs
  | false => .tup .nod (cutL xs lo hi))
 | .str z => ifO (decide (z.length ≤ lim)) (some (.str (cutS z lo hi)))
 | _ => none
theorem Reps.cut {K : PySem.W.Frag} {F : Hp} {ds : List D} {vs : List V} (r : Reps K F ds vs) (lo hi : Option Int) : Reps K F (cutL ds lo hi) (cutV vs lo hi):=by
 unfold cutL cutV
 rw [← r.length]
 exact (r.drop _).take _
theorem whole_iff {n : Nat} {lo hi : Option Int} : whole n lo hi = true ↔ HT.sIx n 0 lo = 0 ∧ HT.sIx n n hi = n:=by
 unfold whole
 rw [Bool.and_eq_true_iff, decide_eq_true_iff, decide_eq_true_iff]
def rSlF (K : PySem.W.Frag) : V → Option Int → Option Int → Hp → VK → Prop:=fun x lo hi H Q => ∃ a xs, x = .ref a ∧ SqT K H a xs ∧ (whole xs.length lo hi = true → Q (.ref a) H) ∧ (whole xs.length lo hi = false → NewT H (cutV xs lo hi) Q)
theorem sl_tupF {X : Cx} : SlR X (rSlF X.K):=by
 intro pins s σ H x v vl vu lo hi sl Q I rx hs pl pu h
 obtain ⟨a, xs, rfl, hx, q1, q2⟩:=h
 cases rx
 obtain ⟨its, r, ht, hz⟩:=I.tuple hx
 have hlen : its.toArray.size = xs.length:=by
  rw [List.size_toArray]
  exact r.length.symm
 refine ⟨"tuple", _, PyProof.Rows.slot_tuple_getitem.lookup, ht.typeIs, ?_⟩
 cases hw : whole xs.length lo hi with
 | true => exact getItem_tuple_whole ht hs pl pu (by rw [hlen]; exact whole_iff.mp hw) ⟨.ref a, H, I, rfl, q1 hw⟩
 | false =>
  refine HT.getItem_tuple_cut ht hs pl pu (by rw [hlen]; intro z; rw [whole_iff.mpr z] at hw; cases hw) ?_ (by rw [hlen]; exact hz)
  rw [hlen]
  have r2 : Vals (cutV xs lo hi) ((its.toArray.toList.drop (HT.sIx xs.length 0 lo)).take (HT.sIx xs.length xs.length hi - HT.sIx xs.length 0 lo)):=(r.drop (HT.sIx xs.length 0 lo)).take (HT.sIx xs.length xs.length hi - HT.sIx xs.length 0 lo)
  exact ⟨.ref s.heap.objs.size, _, tup_new (t':=s.toks) I r2 (Nat.le_trans (cutV_length xs lo hi) hz), rfl, q2 hw _ _ (I.hok.fresh (Nat.le_refl _)) rfl⟩
def fSl (f : FE) (g h : Rho → Sto → R (Option Int)) : FE:=fun ρ S => (f ρ S).bind fun w S1 => (g ρ S1).bind fun lo S2 => (h ρ S2).bind fun hi S3 => R.lift (((rd S3 w).bind (cutD lo hi)).map W.dat) S3
theorem je_slice {lo hi : Option Expr} {gl gh : Rho → Sto → R (Option Int)} {p2 : Pos} (ha : JE T X Wx a fa) (hl : JO T X Wx lo gl) (hh : JO T X Wx hi gh) : JE T X Wx (.Subscript a (.Slice lo hi none p2) pos) (fSl fa gl gh):=by
 obtain ⟨t, h1, s1⟩:=ha
 obtain ⟨tl, h2, s2⟩:=hl
 obtain ⟨th, h3, s3⟩:=hh
 refine ⟨_, pe_slice (SlR.or sl_list (SlR.or sl_tupF sl_str)) h1 h2 h3, fun G F A S H σ ρ Q hw hs hp => ?_⟩
 refine s1 G F A S H σ ρ _ hw hs (hp.bind fun w S1 F1 A1 H1 v1 e1 p1 w1 r1 hp1 => ?_)
 refine s2 G F1 A1 S1 H1 σ ρ _ w1 (hs.mono e1 p1) (hp1.bind fun olo S2 F2 A2 H2 v2 e2 p2 w2 r2 hp2 => ?_)
 cases r2
 refine s3 G F2 A2 S2 H2 σ ρ _ w2 ((hs.mono e1 p1).mono e2 p2) (hp2.bind fun ohi S3 F3 A3 H3 v3 e3 p3 w3 r3 hp3 => ?_)
 cases r3
 obtain ⟨w', h4, q⟩:=hp3.lift
 cases h5 : rd S3 w with
 | none => rw [h5] at h4; cases h4
 | some d =>
  have rr:=rd_rep w3 (r1.mono (e2.trans e3) (p2.trans p3)) h5
  rw [h5, Option.bind_some] at h4
  cases d with
  | list xs =>
   cases h4
   cases rr with
   | flat z => cases z
   | lst h6 r6 => exact .inl ⟨_, _, rfl, .of h6, fun p hp => q _ A3 _ _ (w3.exNew hp _) (Pre.refl _) (w3.new hp _) (.lst upd_same ((r6.cut olo ohi).mono (w3.exNew hp _)))⟩
  | tup f xs =>
   cases rr with
   | flat z => cases z
   | tup h6 h7 r6 =>
    refine .inr (.inl ⟨_, _, rfl, h7, fun hwh => ?_, fun hwh => ?_⟩)
    ·rw [← r6.length] at hwh
     simp only [cutD, hwh] at h4
     cases h4
     exact q F3 A3 H3 _ (Evl.Ex.refl _) (Pre.refl _) w3 (.tup h6 r6)
    ·rw [← r6.length] at hwh
     simp only [cutD, hwh] at h4
     cases h4
     exact fin_newT (fun F' H' v e w r => q F' A3 H' v e (Pre.refl _) w r) w3 (r6.cut olo ohi)
  | str z =>
   simp only [cutD] at h4
   cases h6 : decide (z.length ≤ lim) with
   | false => rw [h6] at h4; cases h4
   | true =>
    rw [h6] at h4
    cases h4
    cases rr with
    | flat h7 =>
     cases h7
     exact .inr (.inr ⟨z, rfl, lim_le (of_decide_eq_true h6), q F3 A3 H3 _ (Evl.Ex.refl _) (Pre.refl _) w3 (.str _)⟩)
  | _ => cases h4

def flats : List D → Option (List V)
 | [] => some []
 | d :: ds => (flatD d).bind fun v => (flats ds).bind fun vs => some (v :: vs)
theorem flats_rep {K : PySem.W.Frag} {F : Hp} : ∀ {ds : List D} {vs us : List V}, Reps K F ds vs → flats ds = some us → vs = us
 | _, _, _, .nil, e => by
  cases e
  rfl
 | d :: ds, _, _, .cons r rr, e => by
  simp only [flats] at e
  cases h1 : flatD d with
  | none => rw [h1] at e; cases e
  | some v =>
   cases h2 : flats ds with
   | none => rw [h1, h2] at e; cases e
   | some vs =>
    rw [h1, h2] at e
    cases e
    rw [flats_rep rr h2, r.flat h1]
theorem flatD_flatV {d : D} {v : V} (h : flatD d = some v) : flatV v = true:=by
 cases d with
 | none => cases h; rfl
 | bool _ => cases h; rfl
 | int _ => cases h; rfl
 | str _ => cases h; rfl
 | _ => cases h
theorem flats_all : ∀ {ds : List D} {us : List V}, flats ds = some us → us.all flatV = true
 | [], _, e => by
  cases e
  rfl
 | d :: ds, _, e => by
  simp only [flats] at e
  cases h1 : flatD d with
  | none => rw [h1] at e; cases e
  | some v =>
   cases h2 : flats ds with
   | none => rw [h1, h2] at e; cases e
   | some vs =>
    rw [h1, h2] at e
    cases e
    rw [List.all_cons, flatD_flatV h1, flats_all h2]
    rfl
def inF (x : D) (ys : List D) : Option Bool:=(flatD x).bind fun v => (flats ys).bind fun vs => some (inV v vs)
def inD1 (neg : Bool) (x : D) (y : D) : Option D:=match seqOf y with
 | some ys => (inF x ys).map fun b => .bool (xor neg b)
 | none => none
def inD2 (neg : Bool) (x : D) (y : D) : Option D:=match y with
 | .list ys => ifO (shp x && SeqAt.shaped (D.list ys).py) (some (.bool (xor neg ((pyAll ys).any fun z => PyData.eqv z x.py))))
 | _ => none
def inD (neg : Bool) : D → D → Option D:=orD (inD1 neg) (inD2 neg)
theorem l_in1 {K : PySem.W.Frag} (neg : Bool) : OpL T K (rIn K neg) (inD1 neg):=by
 intro G F A S H x y dx dy z Q hw rx ry e q
 unfold inD1 at e
 split at e
 ·rename_i ys hy
  unfold inF at e
  cases h1 : flatD dx with
  | none => rw [h1] at e; cases e
  | some v =>
   cases h2 : flats ys with
   | none => rw [h1, h2] at e; cases e
   | some vs =>
    rw [h1, h2] at e
    cases e
    have hx:=rx.flat_of h1
    subst hx
    have q':=q F H (.bl (xor neg (inV x vs))) (Evl.Ex.refl F) hw (.bl _)
    have q2 : Q (.bl (if neg = true then !inV x vs else inV x vs)) H:=by
     cases neg with
     | true => simpa using q'
     | false => simpa using q'
    cases ry with
    | flat h =>
     cases dy with
     | list _ => cases h
     | tup _ _ => cases h
     | _ => cases hy
    | lst h3 r3 =>
     cases hy
     have:=flats_rep r3 h2
     subst this
     exact ⟨_, _, rfl, .inl (.of h3), flatD_flatV h1, flats_all h2, q2⟩
    | tup f3 h3 r3 =>
     cases hy
     have:=flats_rep r3 h2
     subst this
     exact ⟨_, _, rfl, .inr h3, flatD_flatV h1, flats_all h2, q2⟩
    | dT _ _ => cases hy
    | dK _ _ => cases hy
 ·cases e
def rInDn (K : PySem.W.Frag) : Bool → R2
 | false => rInD K
 | true => rNotInD K
theorem l_in2 {K : PySem.W.Frag} (neg : Bool) : OpL T K (rInDn K neg) (inD2 neg):=by
 intro G F A S H x y dx dy z Q hw rx ry e q
 unfold inD2 at e
 split at e
 ·rename_i ys
  obtain ⟨c, e⟩:=ifO_some e
  cases e
  obtain ⟨c1, c2⟩:=Bool.and_eq_true_iff.mp c
  have d1:=rx.dp hw.sub (plain_shaped c1)
  have d2:=ry.dp hw.sub (plain_shaped (d:=.list ys) c2)
  have q':=q F H _ (Evl.Ex.refl F) hw (.bl _)
  cases neg with
  | false => exact ⟨dx.py, pyAll ys, d1, d2, c1, c2, by simpa using q'⟩
  | true => exact ⟨dx.py, pyAll ys, d1, d2, c1, c2, by simpa using q'⟩
 ·cases e
theorem op_inX (hu : X.A.units + 65 < cLine) : OpR X (compareOp .In) (fun x y H Q => rIn X.K false x y H Q ∨ rInDn X.K false x y H Q):=OpR.or op_in_seq (op_inD hu)
theorem op_notInX (hu : X.A.units + 65 < cLine) : OpR X (compareOp .NotIn) (fun x y H Q => rIn X.K true x y H Q ∨ rInDn X.K true x y H Q):=OpR.or op_notIn_seq (op_notInD hu)
theorem l_in {K : PySem.W.Frag} (neg : Bool) : OpL T K (fun x y H Q => rIn K neg x y H Q ∨ rInDn K neg x y H Q) (inD neg):=(l_in1 neg).or (l_in2 neg)
end
end Vz
namespace Vz
open PySem PySem.Spec PyProof.Rows L2
section
variable {T : Tb} {X : Cx} {Wx : WX} {a b e : Expr} {fa fb fe : FE} {pos : Pos}

theorem Wd.frz {K : PySem.W.Frag} {F H : Hp} {A : List (List Addr)} {S : Sto} {k : Nat} {p : Addr} {o : HO} {d : D} (hw : Wd T K F A S H) (h1 : A[k]? = some [p]) (h2 : H p = some o) (hF : F p = none)
  (hd : ∀ F', Ex F F' → F' p = some o → Rep K F' d (.ref p)) : Wd T K (upd F p o) A (S.set k (.frz d)) H:=by
 have hA:=mem_flat h1 (a:=p) (by simp)
 have eF : Ex F (upd F p o):=Evl.Ex.new hF
 refine ⟨fun a u e => ?_, by rw [List.length_set]; exact hw.len, fun j as c g1 g2 => ?_, hw.nod, hw.there, hw.gh, hw.gd, fun a u e => ?_, ⟨hw.tb.tabs, fun q hq => by rw [upd_ne (hw.tb.n3 hq hA)]; exact hw.tb.f q hq, hw.tb.g, hw.tb.a, fun b ps z => by
  by_cases e : b = p
  ·subst e
   rw [upd_same] at z
   exact hw.tb.na b hA ps (h2.trans z)
  ·rw [upd_ne e] at z
   exact hw.tb.nf b ps z, hw.tb.ng, hw.tb.na⟩⟩
 ·by_cases z : a = p
  ·subst z
   rw [upd_same] at e
   rw [h2]
   exact e
  ·rw [upd_ne z] at e
   exact hw.sub a u e
 ·by_cases hj : k = j
  ·subst hj
   rw [h1] at g1
   cases g1
   rw [List.getElem?_set_self (by
    have q:=(List.getElem?_eq_some_iff.mp g2).1
    rwa [List.length_set] at q)] at g2
   cases g2
   exact ⟨p, [], rfl, hd _ eF upd_same⟩
  ·rw [List.getElem?_set_ne hj] at g2
   refine (hw.ok j as c g1 g2).more eF (fun a ha e => ?_) (fun _ _ _ => rfl)
   rw [upd_ne]
   ·exact e
   ·rintro rfl
    exact hj (nodup_ix_flat hw.nod h1 g1 (by simp) ha)
 ·by_cases z : a = p
  ·subst z
   exact .inl (hw.gd a hA)
  ·rw [upd_ne z] at e
   exact hw.fg a u e
def fz (w : W) (S : Sto) : Option (W × Sto):=match w with
 | .loc k 0 => match S[k]? with
  | some (.lst xs) => some (.dat (.list xs), S.set k (.frz (.list xs)))
  | some (.frz d) => some (.dat d, S)
  | some (.dT ps) => some (.dat (.dT ps), S.set k (.frz (.dT ps)))
  | some (.dK ps) => some (.dat (.dK ps), S.set k (.frz (.dK ps)))
  | _ => none
 | .loc _ _ => none
 | w => some (w, S)
theorem fz_ok {K : PySem.W.Frag} {F H : Hp} {A : List (List Addr)} {S S' : Sto} {w w' : W} {v : V} (hw : Wd T K F A S H) (r : RepW K F A w v) (h : fz w S = some (w', S')) : ∃ F', Ex F F' ∧ Wd T K F' A S' H ∧ RepW K F' A w' v:=by
 cases w with
 | dat d => cases h; exact ⟨F, Evl.Ex.refl _, hw, r⟩
 | scr ns => cases h; exact ⟨F, Evl.Ex.refl _, hw, r⟩
 | exn x => cases h; exact ⟨F, Evl.Ex.refl _, hw, r⟩
 | xl x => cases h; exact ⟨F, Evl.Ex.refl _, hw, r⟩
 | loc k j =>
  cases j with
  | succ j => cases h
  | zero =>
   obtain ⟨as, a, h1, h2, rfl⟩:=r
   unfold fz at h
   cases q : S[k]? with
   | none => simp only [q] at h; cases h
   | some c =>
    have ck:=hw.ok k as c h1 q
    simp only [q] at h
    cases c with
    | lst xs =>
     cases h
     obtain ⟨p, vs, rfl, c1, c2, c3⟩:=ck
     cases Option.some.inj h2
     have ef : Ex F (upd F a (.lst vs)):=Evl.Ex.new c1
     exact ⟨_, ef, hw.frz h1 c2 c1 fun F' e g => .lst g (c3.mono e), .lst upd_same (c3.mono ef)⟩
    | frz d =>
     cases h
     obtain ⟨p, r, rfl, hr⟩:=ck
     cases Option.some.inj h2
     exact ⟨F, Evl.Ex.refl _, hw, hr⟩
    | dT ps =>
     cases h
     obtain ⟨p, vs, rfl, c1, c2, c3⟩:=ck
     cases Option.some.inj h2
     have ef : Ex F (upd F a (.dT vs)):=Evl.Ex.new c1
     exact ⟨_, ef, hw.frz h1 c2 c1 fun F' e g => .dT g (c3.mono e), .dT upd_same (c3.mono ef)⟩
    | dK ps =>
     cases h
     obtain ⟨p, vs, rfl, c1, c2, c3⟩:=ck
     cases Option.some.inj h2
     have ef : Ex F (upd F a (.dK vs)):=Evl.Ex.new c1
     exact ⟨_, ef, hw.frz h1 c2 c1 fun F' e g => .dK g (c3.mono e), .dK upd_same (c3.mono ef)⟩
    | ll _ => cases h
    | ins _ _ => cases h
    | old _ => cases h
def R.of {α : Type} (o : Option (α × Sto)) : R α:=match o with
 | some (a, S) => .ok a S
 | none => .bad
def fFz (f : FE) : FE:=fun ρ S => (f ρ S).bind fun w S1 => R.of (fz w S1)
theorem je_fz (h : JE T X Wx e fe) : JE T X Wx e (fFz fe):=by
 obtain ⟨t, h1, s1⟩:=h
 refine ⟨t, h1, fun G F A S H σ ρ Q hw hs hp => ?_⟩
 refine s1 G F A S H σ ρ _ hw hs (hp.bind fun w S1 F1 A1 H1 v e1 p1 w1 r1 hp1 => ?_)
 cases q : fz w S1 with
 | none => rw [q] at hp1; exact hp1.elim
 | some z =>
  obtain ⟨w', S'⟩:=z
  rw [q] at hp1
  obtain ⟨F', e', w2, r2⟩:=fz_ok w1 r1 q
  exact hp1 F' A1 H1 v e' (Pre.refl _) w2 r2

section
variable {K : PySem.W.Frag} {F : Hp}
theorem RepT.any {k : List Key} : ∀ {ps : List (List Key × D)} {ks : List (List Key × V)}, RepT K F ps ks → (ps.any fun p => decide (p.1 = k)) = ks.any fun p => decide (p.1 = k)
 | _, _, .nil => rfl
 | _, _, .cons _ r => by rw [List.any_cons, List.any_cons, RepT.any r]
theorem RepT.mapP {k : List Key} {d : D} {v : V} (h : Rep K F d v) : ∀ {ps : List (List Key × D)} {ks : List (List Key × V)}, RepT K F ps ks → RepT K F (ps.map fun p => if p.1 = k then (p.1, d) else p) (ks.map fun p => if p.1 = k then (p.1, v) else p)
 | _, _, .nil => .nil
 | _, _, .cons (k:=k') g r => by
  rw [List.map_cons, List.map_cons]
  by_cases z : k' = k
  ·simp only [z, if_true]
   exact .cons h (RepT.mapP h r)
  ·simp only [z, if_false]
   exact .cons g (RepT.mapP h r)
theorem RepT.snoc {k : List Key} {d : D} {v : V} (h : Rep K F d v) : ∀ {ps : List (List Key × D)} {ks : List (List Key × V)}, RepT K F ps ks → RepT K F (ps ++ [(k, d)]) (ks ++ [(k, v)])
 | _, _, .nil => .cons h .nil
 | _, _, .cons g r => .cons g (RepT.snoc h r)
theorem RepT.length : ∀ {ps : List (List Key × D)} {ks : List (List Key × V)}, RepT K F ps ks → ps.length = ks.length
 | _, _, .nil => rfl
 | _, _, .cons _ r => congrArg Nat.succ (RepT.length r)
theorem RepT.put {k : List Key} {d : D} {v : V} (h : Rep K F d v) {ps : List (List Key × D)} {ks : List (List Key × V)} (r : RepT K F ps ks) : RepT K F (putD ps k d) (putK ks k v):=by
 unfold putD putK
 rw [r.any]
 cases (ks.any fun p => decide (p.1 = k)) with
 | true => exact r.mapP h
 | false => exact r.snoc h
theorem RepK.any {k : Key} : ∀ {ps : List (Key × D)} {ks : List (Key × V)}, RepK K F ps ks → (ps.any fun p => decide (p.1 = k)) = ks.any fun p => decide (p.1 = k)
 | _, _, .nil => rfl
 | _, _, .cons _ r => by rw [List.any_cons, List.any_cons, RepK.any r]
theorem RepK.mapP {k : Key} {d : D} {v : V} (h : Rep K F d v) : ∀ {ps : List (Key × D)} {ks : List (Key × V)}, RepK K F ps ks → RepK K F (ps.map fun p => if p.1 = k then (p.1, d) else p) (ks.map fun p => if p.1 = k then (p.1, v) else p)
 | _, _, .nil => .nil
 | _, _, .cons (k:=k') g r => by
  rw [List.map_cons, List.map_cons]
  by_cases z : k' = k
  ·simp only [z, if_true]
   exact .cons h (RepK.mapP h r)
  ·simp only [z, if_false]
   exact .cons g (RepK.mapP h r)
theorem RepK.snoc {k : Key} {d : D} {v : V} (h : Rep K F d v) : ∀ {ps : List (Key × D)} {ks : List (Key × V)}, RepK K F ps ks → RepK K F (ps ++ [(k, d)]) (ks ++ [(k, v)])
 | _, _, .nil => .cons h .nil
 | _, _, .cons g r => .cons g (RepK.snoc h r)
theorem RepK.length : ∀ {ps : List (Key × D)} {ks : List (Key × V)}, RepK K F ps ks → ps.length = ks.length
 | _, _, .nil => rfl
 | _, _, .cons _ r => congrArg Nat.succ (RepK.length r)
theorem RepK.put {k : Key} {d : D} {v : V} (h : Rep K F d v) {ps : List (Key × D)} {ks : List (Key × V)} (r : RepK K F ps ks) : RepK K F (putD ps k d) (putK ks k v):=by
 unfold putD putK
 rw [r.any]
 cases (ks.any fun p => decide (p.1 = k)) with
 | true => exact r.mapP h
 | false => exact r.snoc h
end
def putC (c : C) (i : D) (d : D) : Option C:=match c with
 | .lst xs => (match i with
  | .int i => (ixN xs.length i).map fun j => .lst (xs.set j d)
  | _ => none)
 | .dT ps => (match i with
  | .tup .key ks => (keysOf ks).bind fun k => ifO (decide (ps.length < lim)) (some (.dT (putD ps k d)))
  | _ => none)
 | .dK ps => (keyOf i).bind fun k => ifO (decide (ps.length < lim)) (some (.dK (putD ps k d)))
 | _ => none
def stB (o : W) (i : W) (w : W) (S : Sto) : Option Sto:=match o with
 | .loc k 0 => (S[k]?).bind fun c => (rd S i).bind fun di => (frd S w).bind fun d => (putC c di d).map fun c' => S.set k c'
 | _ => none
theorem pset_or {t u : TSet} (h : PSet X t) (h' : PSet X u) : PSet X (fun o i v H Q => t o i v H Q ∨ u o i v H Q):=by
 intro pins s σ H o i v ov iv w Q I ro ri rv q
 rcases q with q | q
 ·exact h pins s σ H o i v ov iv w Q I ro ri rv q
 ·exact h' pins s σ H o i v ov iv w Q I ro ri rv q
theorem ob {α β : Type} {o : Option α} {f : α → Option β} {b : β} (h : o.bind f = some b) : ∃ a, o = some a ∧ f a = some b:=by
 cases o with
 | none => cases h
 | some a => exact ⟨a, rfl, h⟩
theorem om {α β : Type} {o : Option α} {f : α → β} {b : β} (h : o.map f = some b) : ∃ a, o = some a ∧ b = f a:=by
 cases o with
 | none => cases h
 | some a => cases h; exact ⟨a, rfl, rfl⟩
theorem st_ok {K : PySem.W.Frag} {F H : Hp} {A : List (List Addr)} {S S' : Sto} {o i w : W} {x y v : V} {Q : Hp → Prop} (hw : Wd T K F A S H) (rx : RepW K F A o x) (ry : RepW K F A i y) (rv : RepW K F A w v) (h : stB o i w S = some S')
  (q : ∀ H', Wd T K F A S' H' → Q H') : rSetL x y v H Q ∨ rSetD x y v H Q:=by
 unfold stB at h
 split at h
 ·rename_i k
  obtain ⟨c, h1, h⟩:=ob h
  obtain ⟨di, h2, h⟩:=ob h
  obtain ⟨d, h3, h⟩:=ob h
  obtain ⟨c', h4, rfl⟩:=om h
  obtain ⟨as, p, g1, g2, rfl⟩:=rx
  have ck:=hw.ok k as c g1 h1
  have ri:=rd_rep hw ry h2
  have rd':=frd_rep hw rv h3
  cases c with
  | lst xs =>
   obtain ⟨p', vs, rfl, c1, c2, c3⟩:=ck
   cases Option.some.inj g2
   simp only [putC] at h4
   split at h4
   ·obtain ⟨j, h5, rfl⟩:=om h4
    have e:=ri.flat_of rfl
    subst e
    exact .inl ⟨p, vs, _, j, rfl, rfl, c2, by rw [← c3.length]; exact h5, q _ (hw.write g1 (by simp) c1 ⟨p, vs.set j v, rfl, c1, upd_same, c3.set rd' j⟩ c2)⟩
   ·cases h4
  | dT ps =>
   obtain ⟨p', ks, rfl, c1, c2, c3⟩:=ck
   cases Option.some.inj g2
   simp only [putC] at h4
   split at h4
   ·rename_i kk
    obtain ⟨key, h5, h4⟩:=ob h4
    obtain ⟨c5, h4⟩:=ifO_some h4
    cases h4
    cases ri with
    | flat z => cases z
    | tup f6 h6 r6 =>
     have h7:=hw.sub _ _ f6
     rw [keysOf_rep r6 h5] at h7
     exact .inr ⟨p, _, rfl, .inr ⟨ks, key, _, c2, rfl, h7, by rw [← c3.length]; exact lim_lt (of_decide_eq_true c5), rfl⟩, q _ (hw.write g1 (by simp) c1 ⟨p, _, rfl, c1, upd_same, c3.put rd'⟩ c2)⟩
   ·cases h4
  | dK ps =>
   obtain ⟨p', ks, rfl, c1, c2, c3⟩:=ck
   cases Option.some.inj g2
   simp only [putC] at h4
   obtain ⟨key, h5, h4⟩:=ob h4
   obtain ⟨c5, h4⟩:=ifO_some h4
   cases h4
   exact .inr ⟨p, _, rfl, .inl ⟨ks, key, c2, keyOf_rep ri h5, by rw [← c3.length]; exact lim_lt (of_decide_eq_true c5), rfl⟩, q _ (hw.write g1 (by simp) c1 ⟨p, _, rfl, c1, upd_same, c3.put rd'⟩ c2)⟩
  | _ => cases h4
 ·cases h
def R.get {α : Type} : R α → Option (α × Sto)
 | .ok a S => some (a, S)
 | _ => none
theorem get_ok {α : Type} {r : R α} {p : α × Sto} (h : r.get = some p) : r = .ok p.1 p.2:=by
 cases r with
 | ok a S => cases h; rfl
 | _ => cases h
def oSub (fo fi : FE) : FG:=fun w ρ S => (fo ρ S).get.bind fun p => (fi ρ p.2).get.bind fun q => (stB p.1 q.1 w q.2).map fun S' => (ρ, S')
theorem jg_sub (hu : X.A.units + 1 < cLine) (ho : JE T X noW a fa) (hi : JE T X noW b fb)
  (hp : ∀ v, assign (.Subscript a b pos) X.env v = (do
   let ov ← holding [v] (eval a X.env)
   let iv ← holding [v, ov] (eval b X.env)
   standAt pos
   holding [v, ov, iv] (setItem ov iv v)
   release [v, ov, iv] []):=by intro _; rfl) : JG T X (.Subscript a b pos) (oSub fa fb):=by
 obtain ⟨ta, h1, s1⟩:=ho
 obtain ⟨tb, h2, s2⟩:=hi
 refine ⟨_, pg_sub h1 h2 (pset_or set_list (set_dict hu)) hp, fun G F A S H σ ρ w v Q hw hs r ⟨ρ', S', h3, q⟩ => ?_⟩
 obtain ⟨p1, g1, h3⟩:=ob h3
 obtain ⟨p2, g2, h3⟩:=ob h3
 obtain ⟨S3, g3, e3⟩:=om h3
 cases e3
 have g1:=get_ok g1
 have g2:=get_ok g2
 refine s1 G F A S H σ ρ _ hw hs ?_
 rw [g1]
 intro F1 A1 H1 o e1 p1' w1 r1
 refine s2 G F1 A1 p1.2 H1 σ ρ _ w1 (hs.mono e1 p1') ?_
 rw [g2]
 intro F2 A2 H2 i e2 p2' w2 r2
 exact st_ok w2 (r1.mono e2 p2') r2 (r.mono (e1.trans e2) (p1'.trans p2')) g3 fun H' w3 => q F2 A2 σ H' (e1.trans e2) (p1'.trans p2') w3 ((hs.mono e1 p1').mono e2 p2')

def MethL (T : Tb) (K : PySem.W.Frag) (r : V → List V → Hp → VK → Prop) (g : W → List W → Sto → Option (W × Sto)) : Prop :=
 ∀ (G F : Hp) (A : List (List Addr)) (S : Sto) (H : Hp) (x : V) (xs : List V) (w : W) (ws : List W) (w' : W) (S' : Sto) (Q : VK), Wd (T.g G) K F A S H → RepW K F A w x → RepWs K F A ws xs → g w ws S = some (w', S') →
  (∀ F' H' v, Ex F F' → Wd (T.g G) K F' A S' H' → RepW K F' A w' v → Q v H') → r x xs H Q
def LstW (w : W) (S : Sto) : Bool:=match rd S w with
 | some (.list _) => true
 | _ => false
theorem lstW_ty {K : PySem.W.Frag} {F H : Hp} {A : List (List Addr)} {S : Sto} {w : W} {v : V} (hw : Wd T K F A S H) (r : RepW K F A w v) (h : LstW w S = true) : tyV K "list" v H:=by
 unfold LstW at h
 split at h
 ·rename_i xs e
  have rr:=rd_rep hw r e
  cases rr with
  | flat z => cases z
  | lst h1 r1 => exact .inl ⟨rfl, _, .of h1⟩
 ·cases h
def fMeth (g : W → List W → Sto → Option (W × Sto)) (f : FE) (ga : FA) : FE:=fun ρ S => (f ρ S).bind fun w S1 => match LstW w S1 with
 | true => (ga ρ S1).bind fun ws S2 => R.of (g w ws S2)
 | false => .bad
variable {es : List Expr} {ga : FA} {name : Str} {apos cpos : Pos} {id : String} {r : V → List V → Hp → VK → Prop} {g : W → List W → Sto → Option (W × Sto)}
theorem semE_meth {t : TE} {ta : TA} (s1 : SemE T X.K Wx t fe) (s2 : SemA T X.K Wx ta ga) (hl : MethL T X.K r g) : SemE T X.K Wx (tBM X.K "list" r t ta) (fMeth g fe ga):=by
 intro G F A S H σ ρ Q hw hs hp
 refine s1 G F A S H σ ρ _ hw hs (hp.bind fun w S1 F1 A1 H1 v1 e1 p1 w1 r1 hp1 => ?_)
 cases hL : LstW w S1 with
 | false => rw [hL] at hp1; exact hp1.elim
 | true =>
  rw [hL] at hp1
  refine ⟨lstW_ty w1 r1 hL, ?_⟩
  refine s2 G F1 A1 S1 H1 σ ρ _ w1 (hs.mono e1 p1) (hp1.bind fun ws S2 F2 A2 H2 v2 e2 p2 w2 r2 hp2 => ?_)
  cases q : g w ws S2 with
  | none => rw [q] at hp2; exact hp2.elim
  | some z =>
   obtain ⟨w', S'⟩:=z
   rw [q] at hp2
   exact hl G F2 A2 S2 H2 v1 v2 w ws w' S' Q w2 (r1.mono e2 p2) r2 q fun F' H' v e w r => hp2 F' A2 H' v e (Pre.refl _) w r
theorem je_meth (slot : Slot "list" name id) (hty : typeOf (.builtin id) = pure (.type "method_descriptor")) (hm : MtR X id r) (hl : MethL T X.K r g) (ho : JE T X Wx a fa) (ha : JA T X Wx (e :: es) ga)
  (hbase : attributeBase a name X.env (eval a X.env) = eval a X.env:=by rfl)
  (hfew : ((backTo cpos (starEach (e :: es) X.env)).all (fun x => !x.1) && (backToKw cpos (keywordEach [] X.env)).all (fun x => x.1.isSome) && decide ((e :: es).length + ([] : List Keyword).length + (if ([] : List Keyword).isEmpty then 0 else 1) < 30)) = true:=by rfl)
  (hline : (apos.endLine == cpos.line) = true:=by rfl) (hs : starEach (e :: es) X.env = (false, eval e X.env) :: starEach es X.env:=by rfl) (hplain : (backTo cpos (starEach es X.env)).any (·.1) = false:=by rfl) :
  JE T X Wx (.Call (.Attribute a name apos) (e :: es) [] cpos) (fMeth g fa ga):=by
 obtain ⟨t, h1, s1⟩:=ho
 obtain ⟨u, h2, s2⟩:=ha
 exact ⟨_, pe_bm F.plainAttrs_list slot hty hm h1 h2 hbase hfew hline hs hplain, semE_meth s1 s2 hl⟩
def fMeth0 (g : W → List W → Sto → Option (W × Sto)) (f : FE) : FE:=fun ρ S => (f ρ S).bind fun w S1 => match LstW w S1 with
 | true => R.of (g w [] S1)
 | false => .bad
def lstC (S : Sto) : W → Option (Nat × List D)
 | .loc k 0 => match S[k]? with
  | some (.lst xs) => some (k, xs)
  | _ => none
 | _ => none
theorem lstC_rep {K : PySem.W.Frag} {F H : Hp} {A : List (List Addr)} {S : Sto} {w : W} {v : V} {k : Nat} {xs : List D} (hw : Wd T K F A S H) (r : RepW K F A w v) (h : lstC S w = some (k, xs)) :
  ∃ p vs, v = .ref p ∧ H p = some (.lst vs) ∧ Reps K F xs vs ∧ ∀ ys us, Reps K F ys us → Wd T K F A (S.set k (.lst ys)) (upd H p (.lst us)):=by
 unfold lstC at h
 split at h
 ·split at h
  ·rename_i k' xs' e
   cases h
   obtain ⟨as, p, g1, g2, rfl⟩:=r
   obtain ⟨p', vs, rfl, c1, c2, c3⟩:=hw.ok _ as _ g1 e
   cases Option.some.inj g2
   exact ⟨p, vs, rfl, c2, c3, fun ys us ru => hw.write g1 (by simp) c1 ⟨p, us, rfl, c1, upd_same, ru⟩ c2⟩
  ·cases h
 ·cases h
def mAppend : W → List W → Sto → Option (W × Sto):=fun w ws S => match ws with
 | [x] => (lstC S w).bind fun p => (frd S x).bind fun d => ifO (decide (p.2.length < lim)) (some (.dat .none, S.set p.1 (.lst (p.2 ++ [d]))))
 | _ => none
theorem m_append {K : PySem.W.Frag} : MethL T K rAppend mAppend:=by
 intro G F A S H x xs w ws w' S' Q hw rx rs h q
 unfold mAppend at h
 split at h
 ·obtain ⟨⟨k, ys⟩, h1, h⟩:=ob h
  obtain ⟨d, h2, h⟩:=ob h
  obtain ⟨c, h⟩:=ifO_some h
  cases h
  obtain ⟨p, vs, rfl, g1, g2, g3⟩:=lstC_rep hw rx h1
  cases rs with
  | cons r rr =>
   cases rr
   have rd':=frd_rep hw r h2
   exact ⟨p, vs, _, rfl, rfl, g1, by rw [← g2.length]; exact lim_lt (of_decide_eq_true c), q F _ _ (Evl.Ex.refl _) (g3 _ _ (g2.append (.cons rd' .nil))) .non⟩
 ·cases h
def mExtend : W → List W → Sto → Option (W × Sto):=fun w ws S => match ws with
 | [x] => (lstC S w).bind fun p => match rd S x with
  | some (.list ds) => ifO (decide (p.2.length + ds.length ≤ lim)) (some (.dat .none, S.set p.1 (.lst (p.2 ++ ds))))
  | _ => none
 | _ => none
def mPopAt : W → List W → Sto → Option (W × Sto):=fun w ws S => match ws with
 | [x] => (lstC S w).bind fun p => match rd S x with
  | some (.int i) => ifO (decide (i.natAbs < 2 ^ 63)) ((seqIndex? i p.2.length).bind fun j => (p.2[j]?).map fun d => (.dat d, S.set p.1 (.lst (p.2.eraseIdx j))))
  | _ => none
 | _ => none
def mInsert : W → List W → Sto → Option (W × Sto):=fun w ws S => match ws with
 | [y, x] => (lstC S w).bind fun p => (frd S x).bind fun d => match rd S y with
  | some (.int i) => ifO (decide (p.2.length < lim) && (decide (0 ≤ i) && decide (i.natAbs < 2 ^ 63))) (some (.dat .none, S.set p.1 (.lst (p.2.take i.toNat ++ [d] ++ p.2.drop i.toNat))))
  | _ => none
 | _ => none
theorem je_append (ho : JE T X Wx a fa) (ha : JA T X Wx [e] ga) (hbase : attributeBase a "append" X.env (eval a X.env) = eval a X.env:=by rfl)
  (hline : (apos.endLine == cpos.line) = true:=by rfl) (hs : starEach [e] X.env = (false, eval e X.env) :: starEach [] X.env:=by rfl)
  (hfew : ((backTo cpos (starEach [e] X.env)).all (fun x => !x.1) && (backToKw cpos (keywordEach [] X.env)).all (fun x => x.1.isSome) && decide ([e].length + ([] : List Keyword).length + (if ([] : List Keyword).isEmpty then 0 else 1) < 30)) = true:=by rfl) :
  JE T X Wx (.Call (.Attribute a "append" apos) [e] [] cpos) (fMeth mAppend fa ga):=je_meth F.slot_list_append F.type_list_append mt_append m_append ho ha hbase hfew hline hs rfl
end
end Vz
namespace Vz
open PySem PySem.Spec PyProof.Rows L2
section
variable {T : Tb} {X : Cx} {Wx : WX} {a b e : Expr} {fa fb fe : FE} {pos : Pos} {es : List Expr} {ga : FA}

def tyN (K : PySem.W.Frag) (x : V) (H : Hp) : Prop:=∃ p, x = .ref p ∧ ((∃ o vs, H p = some (.frz o (.tup vs)) ∧ o.dict = none) ∨ ∃ o, K.lookup p = some o ∧ o.cls = .type "tuple" ∧ o.dict = none)
theorem tyN_is {pins : List (Addr × Obj)} {σ : L2.St} {H : Hp} {s : Shared} {x : V} {v : Value} (I : Inv X pins σ H s) (r : RelV x v) (ty : tyN X.K x H) : s.TypeIs v "tuple" ∧ ∀ a, v = .ref a → ∃ ob, s.heap.get? a = some ob ∧ ob.dict = none:=by
 obtain ⟨p, rfl, h⟩:=ty
 cases r
 rcases h with ⟨o, vs, h1, h2⟩ | ⟨o, h1, h2, h3⟩
 ·obtain ⟨g1, _, its, _, ⟨o', g2, g3, _⟩⟩:=(show ObjOk X.prog X.w H s.heap p (.frz o (.tup vs)) from I.hok p _ h1)
  rw [g1] at g2
  cases g2
  exact ⟨⟨o, g1, g3⟩, fun a e => by cases e; exact ⟨o, g1, h2⟩⟩
 ·have g1:=I.kIn p o h1
  exact ⟨⟨o, g1, h2⟩, fun a e => by cases e; exact ⟨o, g1, h3⟩⟩
def tySq (K : PySem.W.Frag) (b : Bool) (x : V) (H : Hp) : Prop:=match b with
 | false => tyV K "list" x H
 | true => tyN K x H
def sqTy : Bool → String
 | false => "list"
 | true => "tuple"
theorem tySq_is {pins : List (Addr × Obj)} {σ : L2.St} {H : Hp} {s : Shared} {x : V} {v : Value} (I : Inv X pins σ H s) (r : RelV x v) : ∀ {b : Bool}, tySq X.K b x H → s.TypeIs v (sqTy b) ∧ ∀ a, v = .ref a → ∃ ob, s.heap.get? a = some ob ∧ ob.dict = none
 | false, ty => tyV_is I r ty
 | true, ty => tyN_is I r ty
def tBS (K : PySem.W.Frag) (r : Bool → V → List V → Hp → VK → Prop) (to : TE) (t : TA) : TE:=fun σ H Q => to σ H fun x H1 => ∃ b, tySq K b x H1 ∧ t σ H1 fun xs H2 => r b x xs H2 Q
theorem plainSq : ∀ b : Bool, PlainAttrs (sqTy b)
 | false => F.plainAttrs_list
 | true => F.plainAttrs_tuple
theorem pe_bS {o : Expr} {to : TE} {t : TA} {name : Str} {apos cpos : Pos} {id : Bool → String} {r : Bool → V → List V → Hp → VK → Prop} (slot : ∀ b, Slot (sqTy b) name (id b)) (hty : ∀ b, typeOf (.builtin (id b)) = pure (.type "method_descriptor")) (hm : ∀ b, MtR X (id b) (r b)) (ho : PE X o to) (ha : PA X (e :: es) t)
  (hbase : attributeBase o name X.env (eval o X.env) = eval o X.env)
  (hfew : ((backTo cpos (starEach (e :: es) X.env)).all (fun x => !x.1) && (backToKw cpos (keywordEach [] X.env)).all (fun x => x.1.isSome) && decide ((e :: es).length + ([] : List Keyword).length + (if ([] : List Keyword).isEmpty then 0 else 1) < 30)) = true)
  (hline : (apos.endLine == cpos.line) = true) (hs : starEach (e :: es) X.env = (false, eval e X.env) :: starEach es X.env) (hplain : (backTo cpos (starEach es X.env)).any (·.1) = false) :
  PE X (.Call (.Attribute o name apos) (e :: es) [] cpos) (tBS X.K r to t):=by
 refine ⟨fun pins s σ H Q I h => wpAny_Call_method_late hbase hfew hline rfl (thn (ho.run pins s σ H _ I h) fun v s1 ⟨x, H1, I1, r1, b, ty, q1⟩ => ?_)⟩
 obtain ⟨h1, h2⟩:=tySq_is I1 r1 ty
 refine ⟨sqTy b, id b, plainSq b, slot b, hty b, h1, h2, ?_⟩
 have hA:=ha.run cpos pins s1 σ H1 _ I1 q1
 rw [hs] at hA ⊢
 refine Calls.callWith_builtin (by show (false || (backTo cpos (starEach es X.env)).any (·.1)) = false; rw [hplain] <;> rfl) (Calls.evalArgs_plain (thn hA fun us s2 ⟨vs, H2, I2, r2, q2⟩ => ?_))
 exact hm b pins s2 σ H2 x vs v us Q I2 r1 r2 q2
def rIxTup (K : PySem.W.Frag) : V → List V → Hp → VK → Prop:=fun x xs H Q => ∃ (a : Addr) (ns : List Int) (k : Int), x = .ref a ∧ xs = [.int k] ∧ SqT K H a (ns.map V.int) ∧ k ∈ ns ∧ Q (.int (ns.idxOf k : Nat)) H
theorem mt_ixTup : MtR X "tuple.index" (rIxTup X.K):=by
 intro pins s σ H x xs v us Q I rx rs h
 obtain ⟨a, ns, k, rfl, rfl, hq, hk, q⟩:=h
 cases rx
 obtain ⟨u, rfl, t, rfl⟩:=vals1 rs
 obtain ⟨its, r, pl, hz⟩:=I.tuple hq
 exact PySem.SeqAt.tuple_index_ints (show s.heap.IsTuple a its.toArray from pl) r.ints hk ⟨.int _, H, I.tok _, ⟨_, rfl⟩, q⟩
def rIxSq (K : PySem.W.Frag) : Bool → V → List V → Hp → VK → Prop
 | false => rIndex K
 | true => rIxTup K
def idIx : Bool → String
 | false => "list.index"
 | true => "tuple.index"
theorem mt_ixSq : ∀ b, MtR X (idIx b) (rIxSq X.K b)
 | false => mt_index
 | true => mt_ixTup
def findV (y : V) : List V → Option Nat
 | [] => none
 | z :: zs => match eqV z y with
  | true => some 0
  | false => (findV y zs).map (· + 1)
theorem findV_ok {y : V} : ∀ {zs : List V} {j : Nat}, findV y zs = some j → (∃ z, zs[j]? = some z ∧ eqV z y = true) ∧ ∀ (m : Nat) (z' : V), m < j → zs[m]? = some z' → eqV z' y = false
 | [], _, h => by cases h
 | z :: zs, j, h => by
  unfold findV at h
  cases q : eqV z y with
  | true =>
   rw [q] at h
   cases h
   exact ⟨⟨z, rfl, q⟩, fun m z' hm => absurd hm (Nat.not_lt_zero _)⟩
  | false =>
   rw [q] at h
   obtain ⟨j', h1, rfl⟩:=om h
   obtain ⟨⟨z1, h2, h3⟩, h4⟩:=findV_ok h1
   refine ⟨⟨z1, by simpa using h2, h3⟩, fun m z' hm hz => ?_⟩
   cases m with
   | zero =>
    simp at hz
    subst hz
    exact q
   | succ m => exact h4 m z' (by omega) (by simpa using hz)
def intsOf : List D → Option (List Int)
 | [] => some []
 | .int i :: ds => (intsOf ds).bind fun r => some (i :: r)
 | _ => none
theorem intsOf_rep {K : PySem.W.Frag} {F : Hp} : ∀ {ds : List D} {vs : List V} {ns : List Int}, Reps K F ds vs → intsOf ds = some ns → vs = ns.map V.int
 | _, _, _, .nil, e => by
  cases e
  rfl
 | d :: ds, _, ns, .cons r rr, e => by
  cases d with
  | int i =>
   simp only [intsOf] at e
   obtain ⟨ms, h1, h2⟩:=ob e
   cases h2
   rw [intsOf_rep rr h1, r.flat rfl]
   rfl
  | _ => cases e
def findI (k : Int) : List Int → Option Nat
 | [] => none
 | z :: zs => match decide (z = k) with
  | true => some 0
  | false => (findI k zs).map (· + 1)
theorem findI_ok {k : Int} : ∀ {zs : List Int} {j : Nat}, findI k zs = some j → k ∈ zs ∧ zs.idxOf k = j
 | [], _, h => by cases h
 | z :: zs, j, h => by
  unfold findI at h
  cases q : decide (z = k) with
  | true =>
   rw [q] at h
   cases h
   have:=of_decide_eq_true q
   subst this
   exact ⟨by simp, by simp⟩
  | false =>
   rw [q] at h
   obtain ⟨j', h1, rfl⟩:=om h
   obtain ⟨h2, h3⟩:=findI_ok h1
   have hz:=of_decide_eq_false q
   refine ⟨List.mem_cons_of_mem _ h2, ?_⟩
   rw [List.idxOf_cons, h3]
   have : (z == k) = false:=by simpa using hz
   rw [this]
   rfl
def ixOf (b : Bool) (w d : D) : Option Nat:=match b, w with
 | false, .list ds => (flats ds).bind fun vs => (flatD d).bind fun v => findV v vs
 | true, .tup .nod ds => (intsOf ds).bind fun ns => match d with
  | .int k => findI k ns
  | _ => none
 | _, _ => none
def sqB : D → Option Bool
 | .list _ => some false
 | .tup .nod _ => some true
 | _ => none
def fIndex (f : FE) (ga : FA) : FE:=fun ρ S => (f ρ S).bind fun w S1 => match (rd S1 w).bind sqB with
 | some b => (ga ρ S1).bind fun ws S2 => R.lift (((rd S2 w).bind fun c => (rds S2 ws).bind (one fun d => ixOf b c d)).map fun j => .dat (.int (j : Nat))) S2
 | none => .bad
theorem tySq_of {K : PySem.W.Frag} {F H : Hp} {d : D} {v : V} {b : Bool} (e : Ex F H) (r : RepU K F H d v) (h : sqB d = some b) : tySq K b v H:=by
 cases r with
 | flat z => cases d <;> first | (cases h; done) | (cases z; done)
 | lst h1 r1 => cases h; exact .inl ⟨rfl, _, .of h1⟩
 | tup f1 h1 r1 =>
  rename_i fl _ _ _
  cases fl with
  | nod =>
   cases h
   rcases f1 with ⟨o, g1, g2⟩ | ⟨o, its, n, g1, g2, g3, _⟩
   ·exact ⟨_, rfl, .inl ⟨o, _, e _ _ g1, g2⟩⟩
   ·exact ⟨_, rfl, .inr ⟨o, g1, g2, g3⟩⟩
  | _ => cases h
 | dT _ _ => cases h
 | dK _ _ => cases h
theorem je_index {apos cpos : Pos} (ho : JE T X Wx a fa) (ha : JA T X Wx [e] ga) (hbase : attributeBase a "index" X.env (eval a X.env) = eval a X.env:=by rfl)
  (hfew : ((backTo cpos (starEach [e] X.env)).all (fun x => !x.1) && (backToKw cpos (keywordEach [] X.env)).all (fun x => x.1.isSome) && decide ([e].length + ([] : List Keyword).length + (if ([] : List Keyword).isEmpty then 0 else 1) < 30)) = true:=by rfl)
  (hline : (apos.endLine == cpos.line) = true:=by rfl) (hs : starEach [e] X.env = (false, eval e X.env) :: starEach [] X.env:=by rfl) :
  JE T X Wx (.Call (.Attribute a "index" apos) [e] [] cpos) (fIndex fa ga):=by
 obtain ⟨t, h1, s1⟩:=ho
 obtain ⟨u, h2, s2⟩:=ha
 refine ⟨_, pe_bS (id:=idIx) (r:=rIxSq X.K) (fun b => by cases b; exact F.slot_list_index; exact F.slot_tuple_index) (fun b => by cases b; exact F.type_list_index; exact F.type_tuple_index) mt_ixSq h1 h2 hbase hfew hline hs rfl, fun G F A S H σ ρ Q hw hs hp => ?_⟩
 refine s1 G F A S H σ ρ _ hw hs (hp.bind fun w S1 F1 A1 H1 v1 e1 p1 w1 r1 hp1 => ?_)
 cases hb : (rd S1 w).bind sqB with
 | none => rw [hb] at hp1; exact hp1.elim
 | some b =>
  rw [hb] at hp1
  obtain ⟨d1, hd1, hb⟩:=ob hb
  refine ⟨b, tySq_of w1.sub (rd_rep w1 r1 hd1) hb, ?_⟩
  refine s2 G F1 A1 S1 H1 σ ρ _ w1 (hs.mono e1 p1) (hp1.bind fun ws S2 F2 A2 H2 v2 e2 p2 w2 r2 hp2 => ?_)
  obtain ⟨w', h3, q⟩:=hp2.lift
  obtain ⟨j, i3, rfl⟩:=om h3
  obtain ⟨c, h4, i4⟩:=ob i3
  obtain ⟨ds, h5, i5⟩:=ob i4
  obtain ⟨d, i6, h6⟩:=one_some i5
  subst i6
  have q':=q F2 A2 H2 (.int (j : Nat)) (Evl.Ex.refl _) (Pre.refl _) w2 (.int _)
  have rc:=rd_rep w2 (r1.mono e2 p2) h4
  have ra:=rds_rep w2 r2 h5
  cases ra with
  | cons ra rr =>
  cases rr
  unfold ixOf at h6
  split at h6
  ·rename_i cs
   obtain ⟨vs, h7, h6⟩:=ob h6
   obtain ⟨v, h8, h6⟩:=ob h6
   obtain ⟨⟨z, g1, g2⟩, g3⟩:=findV_ok h6
   cases rc with
   | flat z => cases z
   | lst h9 r9 =>
    have:=flats_rep r9 h7
    subst this
    have:=ra.flat_of h8
    subst this
    exact ⟨_, _, _, j, z, rfl, rfl, .of h9, flatD_flatV h8, flats_all h7, g1, g2, g3, q'⟩
  ·rename_i cs
   obtain ⟨ns, h7, h6⟩:=ob h6
   split at h6
   ·obtain ⟨g1, g2⟩:=findI_ok h6
    cases rc with
    | flat z => cases z
    | tup f9 h9 r9 =>
     have:=intsOf_rep r9 h7
     subst this
     cases ra.flat_of rfl
     exact ⟨_, ns, _, rfl, rfl, h9, g1, by rw [g2]; exact q'⟩
   ·cases h6
  ·cases h6
end
end Vz
namespace Vz
open PySem PySem.Spec PyProof.Rows L2
section
variable {T : Tb} {X : Cx} {Wx : WX} {a b e : Expr} {fa fb fe : FE} {pos p : Pos} {es : List Expr} {ga : FA}
theorem collect_T {prog : Program} {w : World} {A : Around} {E : Value → Shared → Prop} {s : Shared} {l : Addr} {vs : List Value} {Q : List Value → Shared → Prop} (hl : s.heap.IsTuple l vs.toArray)
  (h : Q vs { s with heap:=(s.heap.push (seqObj "list" #[] 0)).update s.heap.objs.size (Obj.mapSeq (· ++ vs.toArray)) }) (hz : vs.length ≤ sizeLine) : wpAny (model prog w) A (collect (.ref l)) Q E s:=by
 obtain ⟨o, ho, hc, n, hd⟩:=id hl
 unfold collect
 refine wpAny_bind (wpAny_runValue (codeAny_builtin entry_proto_collect' ?_))
 show wpAny _ _ (do again (.builtin "list.__iadd__" ⟨[← newList [], .ref l], []⟩)) _ _ s
 refine wpAny_bind (wpAny_newList (wpAny_pure ⟨Code.quiet_builtin _ (by decide +kernel), codeAny_builtin entry_list_iadd' ?_⟩))
 show wpAny _ _ (Builtin.List.listExtendWith (.ref s.heap.objs.size) (.ref l) (.ref s.heap.objs.size)) _ _ { s with heap:=s.heap.push (seqObj "list" #[] 0) }
 unfold Builtin.List.listExtendWith
 have ho' : (s.heap.push (seqObj "list" #[] 0)).get? l = some o:=Heap.get?_push_of_some _ ho
 refine wpAny_bind (wpAny_typeOf (T:="tuple") ⟨o, ho', hc⟩ ?_)
 have ht : (Value.type "tuple" == Value.type "tuple") = true:=rfl
 rw [if_pos (by rw [ht]; simp)]
 refine wpAny_bind (listItems_at ho' hd ?_)
 refine wpAny_bind (listItems_at (xs:=#[]) (n:=0) (Heap.get?_push_size _ rfl) rfl ?_)
 rw [if_neg (by simp)]
 refine wpAny_bind (listUpdate_at (xs:=#[]) (n:=0) (Heap.get?_push_size _ rfl) rfl ?_ (Nat.zero_le _) (by show (#[] ++ vs.toArray).size ≤ sizeLine + 1; simp only [Array.size_append, List.size_toArray, List.length_nil]; omega))
 refine wpAny_pure ?_
 show wpAny (model prog w) A (do
   let o ← load s.heap.objs.size
   match o.data with
   | .seq xs _ => pure xs.toList
   | _ => unsupported "internal:collect") Q E { s with heap:=(s.heap.push (seqObj "list" #[] 0)).update s.heap.objs.size (Obj.mapSeq (· ++ vs.toArray)) }
 refine wpAny_bind (wpAny_load (get?_update_seq (Heap.get?_push_size _ rfl) _) ?_)
 show wpAny _ _ (pure ((#[] : Array Value) ++ vs.toArray).toList) Q E _
 rw [show ((#[] : Array Value) ++ vs.toArray).toList = vs by simp]
 exact wpAny_pure h
theorem sorted_T {prog : Program} {w : World} {A : Around} {E : Value → Shared → Prop} {s : Shared} {l : Addr} {vs : List Value} {ns : List Int} {Q : Value → Shared → Prop} (hl : s.heap.IsTuple l vs.toArray) (hI : IntsAre vs ns) (hL : vs.length ≤ sizeLine)
  (h : ∀ (out : Array Value) (ns' : List Int), IntsAre out.toList ns' → ns'.Perm ns → ns'.Pairwise (· ≤ ·) → Q (.ref (s.heap.objs.size + 1)) { s with heap:=sortedAll s.heap vs out }) :
  wpAny (model prog w) A (call (.builtin "sorted") [.ref l]) Q E s:=by
 refine Calls.call_function_entry kind_sorted plain_sorted entry_sorted (args_sorted1 _) ?_
 unfold Builtin.«sorted»
 refine wpAny_bind (m:=checkCount "sorted" 1 1 _) (wpAny_pure ?_)
 refine wpAny_bind (collect_T hl ?_ hL)
 refine wpAny_bind (wpAny_newList ?_)
 have hsz : ((s.heap.push (seqObj "list" #[] 0)).update s.heap.objs.size (Obj.mapSeq (· ++ vs.toArray))).objs.size = s.heap.objs.size + 1:=by
  rw [Heap.size_update, size_push']
 have hoL : (((s.heap.push (seqObj "list" #[] 0)).update s.heap.objs.size (Obj.mapSeq (· ++ vs.toArray))).push (seqObj "list" vs.toArray 0)).get? (s.heap.objs.size + 1) = some (seqObj "list" vs.toArray 0):=by
  rw [← hsz]
  exact Heap.get?_push_size _ rfl
 show wpAny _ _ _ _ _ { s with heap:=((s.heap.push (seqObj "list" #[] 0)).update s.heap.objs.size (Obj.mapSeq (· ++ vs.toArray))).push (seqObj "list" vs.toArray 0) }
 rw [hsz]
 refine wpAny_bind (wpAny_holding (wpAny_call_entry slot_list_sort ⟨_, hoL, rfl⟩ entry_list_sort (list_sort_treeKAny intKind_oneLt hoL hI.keysOfInt (fun v₁ v₂ rest e => keyKind_ints (by rw [← e]; exact hI)) hL fun st' hp hs => ⟨_, rfl, ?_⟩) (args_list_sort _)))
 obtain ⟨ns', h1, h2, h3⟩:=sorted_out hI hp (sortedTo_of_int hs)
 exact wpAny_pure ⟨_, rfl, h _ ns' h1 h2 h3⟩
def rSortedT2 (K : PySem.W.Frag) : List V → Hp → VK → Prop:=fun vs H Q => ∃ (a : Addr) (ns : List Int), vs = [V.ref a] ∧ SqT K H a (ns.map V.int) ∧
 ∀ (ns' : List Int) (p : Addr), ns'.Perm ns → ns'.Pairwise (· ≤ ·) → H p = none → Q (.ref p) (upd H p (.lst (ns'.map V.int)))
theorem cr_sortedT2 : CallR X (.builtin "sorted") (rSortedT2 X.K):=by
 intro pins s σ H vs us Q I r h
 obtain ⟨a, ns, rfl, hs, q⟩:=h
 obtain ⟨its, rv, hl, hz⟩:=I.tuple hs
 rw [Vals.ref1 r]
 have hi:=rv.ints
 refine sorted_T (show s.heap.IsTuple a its.toArray from hl) hi (by rw [← rv.length]; exact hz) fun out ns' h1 h2 h3 => ?_
 obtain ⟨ep, he'⟩:=PyProof.Rows.sortedAll_at s.heap its out
 have hlen : (ns'.map V.int).length ≤ sizeLine:=by
  rw [List.length_map, h2.length_eq]
  rw [List.length_map] at hz
  exact hz
 exact ⟨.ref _, upd H (s.heap.objs.size + 1) (.lst (ns'.map V.int)), I.laid (t':=s.toks) (fun _ _ => PyProof.Rows.sortedAll_old) (Nat.le_succ _) ⟨hlen, out.toList, ep, vals_of_ints h1, he'⟩, rfl, q ns' _ h2 h3 (I.hok.fresh (Nat.le_succ _))⟩
def insI (x : Int) : List Int → List Int
 | [] => [x]
 | y :: ys => match decide (x ≤ y) with
  | true => x :: y :: ys
  | false => y :: insI x ys
def sortI : List Int → List Int
 | [] => []
 | x :: xs => insI x (sortI xs)
theorem insI_perm (x : Int) : ∀ ys : List Int, (insI x ys).Perm (x :: ys)
 | [] => .refl _
 | y :: ys => by
  unfold insI
  cases decide (x ≤ y) with
  | true => exact .refl _
  | false => exact ((insI_perm x ys).cons y).trans (.swap x y ys)
theorem sortI_perm : ∀ xs : List Int, (sortI xs).Perm xs
 | [] => .refl _
 | x :: xs => (insI_perm x _).trans ((sortI_perm xs).cons x)
theorem insI_pw (x : Int) : ∀ ys : List Int, ys.Pairwise (· ≤ ·) → (insI x ys).Pairwise (· ≤ ·)
 | [], _ => by simp [insI]
 | y :: ys, h => by
  obtain ⟨h1, h2⟩:=List.pairwise_cons.mp h
  unfold insI
  cases q : decide (x ≤ y) with
  | true =>
   have q:=of_decide_eq_true q
   refine List.pairwise_cons.mpr ⟨fun z hz => ?_, h⟩
   rcases List.mem_cons.mp hz with rfl | hz
   ·exact q
   ·exact Int.le_trans q (h1 z hz)
  | false =>
   have q:=of_decide_eq_false q
   refine List.pairwise_cons.mpr ⟨fun z hz => ?_, insI_pw x ys h2⟩
   rcases List.mem_cons.mp ((insI_perm x ys).mem_iff.mp hz) with rfl | hz
   ·omega
   ·exact h1 z hz
theorem sortI_pw : ∀ xs : List Int, (sortI xs).Pairwise (· ≤ ·)
 | [] => .nil
 | x :: xs => insI_pw x _ (sortI_pw xs)
theorem sortI_uniq {ns ms : List Int} (h : ms.Perm ns) (s : ms.Pairwise (· ≤ ·)) : ms = sortI ns :=
 List.Perm.eq_of_pairwise (le:=fun a b : Int => a ≤ b) (fun a b _ _ h1 h2 => Int.le_antisymm h1 h2) s (sortI_pw ns) (h.trans (sortI_perm ns).symm)
def sortedD : List D → Option (List D):=one fun d => (seqOf d).bind fun ds => (intsOf ds).map fun ns => (sortI ns).map D.int
def rSortedX (K : PySem.W.Frag) : List V → Hp → VK → Prop:=fun vs H Q => rSortedI K vs H Q ∨ rSortedT2 K vs H Q
theorem RepU.seq {K : PySem.W.Frag} {F H : Hp} {d : D} {v : V} {ds : List D} (r : RepU K F H d v) (h : seqOf d = some ds) : ∃ p vs, v = .ref p ∧ Reps K F ds vs ∧ (SqL K H p vs ∨ SqT K H p vs):=by
 cases r with
 | flat z => cases d <;> first | (cases h; done) | (cases z; done)
 | lst h1 r1 => cases h; exact ⟨_, _, rfl, r1, .inl (.of h1)⟩
 | tup f1 h1 r1 => cases h; exact ⟨_, _, rfl, r1, .inr h1⟩
 | dT _ _ => cases h
 | dK _ _ => cases h
theorem l_sorted {K : PySem.W.Frag} : CallLL T K (rSortedX K) sortedD:=by
 intro G F A S H vs ds z Q hw rs h q
 obtain ⟨d, rfl, h⟩:=one_some h
 obtain ⟨xs, h1, h⟩:=ob h
 obtain ⟨ns, h2, rfl⟩:=om h
 cases rs with
 | cons r rr =>
 cases rr
 obtain ⟨p, us, rfl, h3, h4⟩:=r.seq h1
 have:=intsOf_rep h3 h2
 subst this
 have fin : ∀ (ns' : List Int) (p : Addr), ns'.Perm ns → ns'.Pairwise (· ≤ ·) → H p = none → Q (.ref p) (upd H p (.lst (ns'.map V.int))):=fun ns' p h5 h6 hp => by
  rw [sortI_uniq h5 h6]
  exact q _ p _ (hw.junk hp _) upd_same (hw.freshF hp) (Evl.fresh_back hw.gh hp) (fun m => by have:=hw.there p m; rw [hp] at this; cases this) (Reps.of_ints _)
 rcases h4 with h4 | h4
 ·exact .inl ⟨p, ns, rfl, h4, fin⟩
 ·exact .inr ⟨p, ns, rfl, h4, fin⟩
theorem semL_call {K : PySem.W.Frag} {t : TA} {r : List V → Hp → VK → Prop} {g : List D → Option (List D)} (h : SemA T K Wx t ga) (hr : CallLL T K r g) :
  ∀ G F A S H σ ρ Q, Wd (T.g G) K F A S H → Sl K F A ρ σ → PostL (T.g G) K F A (lCall g ga ρ S) Q (fun c d H' => Wx c d σ H') → tCB r t σ H Q:=by
 intro G F A S H σ ρ Q hw hs hp
 refine h G F A S H σ ρ _ hw hs (hp.bind fun ws S1 F1 A1 H1 v1 e1 p1 w1 r1 hp1 => ?_)
 cases h0 : (rds S1 ws).bind g with
 | none => rw [h0] at hp1; exact hp1.elim
 | some z =>
  rw [h0] at hp1
  obtain ⟨ds, h2, h3⟩:=ob h0
  exact hr G F1 A1 S1 H1 v1 ds z Q w1 (rds_rep w1 r1 h2) h3 fun H' p us w' g1 g2 g3 g4 g5 => hp1 F1 A1 H' p us (Evl.Ex.refl _) (Pre.refl _) w' g1 g2 g3 g4 g5
theorem jl_sorted (hm : X.mg "sorted" = none) (ha : JA T X Wx [e] ga) (hg : Gl X "sorted":=by rfl) (he : starEach [e] X.env = (false, eval e X.env) :: starEach [] X.env:=by rfl) : JL T X Wx (.Call (.Name "sorted" p) [e] [] pos) (lCall sortedD ga):=by
 obtain ⟨t1, h1, s1⟩:=ha
 exact ⟨_, pe_callB (CallR.or cr_sortedI cr_sortedT2) hg hm boot_sorted h1 (by decide) (by decide) he rfl, semL_call s1 l_sorted⟩
def listD : List D → Option (List D):=one seqOf
def tupleD : List D → Option D:=one fun d => match d with
 | .list xs => some (.tup .nod xs)
 | .tup f xs => some (.tup f xs)
 | _ => none
def rTupOf (K : PySem.W.Frag) : List V → Hp → VK → Prop:=fun xs H Q => ∃ p ys, xs = [.ref p] ∧ ((SqL K H p ys ∧ NewT H ys Q) ∨ (SqT K H p ys ∧ Q (.ref p) H))
theorem cr_tupOf : CallR X (.type "tuple") (rTupOf X.K):=by
 intro pins s σ H xs us Q I r h
 obtain ⟨p, ys, rfl, h⟩:=h
 rw [Vals.ref1 r]
 rcases h with ⟨hs, q⟩ | ⟨hs, q⟩
 ·obtain ⟨its, rv, pl, hz⟩:=I.list hs
  refine call_tuple_list pl.isList (fun h' hk => ?_) (by rw [List.size_toArray, ← rv.length]; exact hz)
  have I1 : Inv X pins σ H { s with heap:=h' }:=I.kept (t':=s.toks) hk
  exact ⟨.ref h'.objs.size, _, tup_new (t':=s.toks) I1 rv hz, rfl, q _ _ (I1.hok.fresh (Nat.le_refl _)) rfl⟩
 ·obtain ⟨its, rv, pl, hz⟩:=I.tuple hs
  exact call_tuple_tup pl ⟨.ref p, H, I, rfl, q⟩
theorem l_tuple {K : PySem.W.Frag} : CallL T K (rTupOf K) tupleD:=by
 intro G F A S H vs ds z Q hw rs h q
 obtain ⟨d, hd, h0⟩:=one_some h
 subst hd
 clear h
 cases rs with
 | cons r rr =>
 cases rr
 have h:=h0
 clear h0
 split at h
 ·cases h
  cases r with
  | flat z => cases z
  | lst h1 r1 => exact ⟨_, _, rfl, .inl ⟨.of h1, fin_newT q hw r1⟩⟩
 ·cases h
  cases r with
  | flat z => cases z
  | tup f1 h1 r1 => exact ⟨_, _, rfl, .inr ⟨h1, q F H _ (Evl.Ex.refl _) hw (.tup f1 r1)⟩⟩
 ·cases h
theorem je_tuple (hm : X.mg "tuple" = none) (ha : JA T X Wx [e] ga) (hg : Gl X "tuple":=by rfl) (he : starEach [e] X.env = (false, eval e X.env) :: starEach [] X.env:=by rfl) : JE T X Wx (.Call (.Name "tuple" p) [e] [] pos) (fCall tupleD ga) :=
 je_callTy cr_tupOf l_tuple hg hm boot_tuple ha (by decide) (by decide) he rfl
def lenD : List D → Option D:=one fun d => match d with
 | .str z => ifO (decide (z.length ≤ lim)) (some (.int (z.length : Nat)))
 | .list xs => some (.int (xs.length : Nat))
 | .tup _ xs => some (.int (xs.length : Nat))
 | _ => none
theorem l_len {K : PySem.W.Frag} : CallL T K (fun xs H Q => ∃ x n, xs = [x] ∧ LenV K x H n ∧ Q (.int n) H) lenD:=by
 intro G F A S H vs ds z Q hw rs h q
 obtain ⟨d, hd, h0⟩:=one_some h
 subst hd
 clear h
 cases rs with
 | cons r rr =>
 cases rr
 have h:=h0
 clear h0
 split at h
 ·rename_i s
  obtain ⟨c, h⟩:=ifO_some h
  cases h
  cases r.flat_of rfl
  exact ⟨_, _, rfl, ⟨lim_le (of_decide_eq_true c), rfl⟩, q F H _ (Evl.Ex.refl _) hw (.int _)⟩
 ·cases h
  cases r with
  | flat z => cases z
  | lst h1 r1 => exact ⟨_, _, rfl, .inl ⟨_, .of h1, rfl⟩, q F H _ (Evl.Ex.refl _) hw (by rw [r1.length]; exact .int _)⟩
 ·cases h
  cases r with
  | flat z => cases z
  | tup f1 h1 r1 => exact ⟨_, _, rfl, .inr ⟨_, h1, rfl⟩, q F H _ (Evl.Ex.refl _) hw (by rw [r1.length]; exact .int _)⟩
 ·cases h
theorem je_len (hm : X.mg "len" = none) (ha : JA T X Wx [e] ga) (hg : Gl X "len":=by rfl) (he : starEach [e] X.env = (false, eval e X.env) :: starEach [] X.env:=by rfl) : JE T X Wx (.Call (.Name "len" p) [e] [] pos) (fCall lenD ga) :=
 je_callB call_len l_len hg hm boot_len ha (by decide) (by decide) he rfl
def boolsOf : List D → Option (List Bool)
 | [] => some []
 | .bool i :: ds => (boolsOf ds).bind fun r => some (i :: r)
 | _ => none
theorem boolsOf_rep {K : PySem.W.Frag} {F : Hp} : ∀ {ds : List D} {vs : List V} {ns : List Bool}, Reps K F ds vs → boolsOf ds = some ns → vs = ns.map V.bl
 | _, _, _, .nil, e => by
  cases e
  rfl
 | d :: ds, _, ns, .cons r rr, e => by
  cases d with
  | bool i =>
   simp only [boolsOf] at e
   obtain ⟨ms, h1, h2⟩:=ob e
   cases h2
   rw [boolsOf_rep rr h1, r.flat rfl]
   rfl
  | _ => cases e
def onL {α : Type} (g : List D → Option α) : D → Option α
 | .list xs => g xs
 | _ => none
theorem onL_rep {α : Type} {K : PySem.W.Frag} {F H : Hp} {g : List D → Option α} {d : D} {v : V} {z : α} (r : RepU K F H d v) (h : onL g d = some z) : ∃ p xs vs, v = .ref p ∧ SqL K H p vs ∧ Reps K F xs vs ∧ g xs = some z:=by
 unfold onL at h
 split at h
 ·cases r with
  | flat z => cases z
  | lst h1 r1 => exact ⟨_, _, _, rfl, .of h1, r1, h⟩
 ·cases h
def sumD : List D → Option D:=one (onL fun xs => (intsOf xs).map fun ns => .int ns.sum)
def allD : List D → Option D:=one (onL fun xs => (boolsOf xs).map fun ns => .bool (ns.all id))
theorem l_sum {K : PySem.W.Frag} : CallL T K (rSum K) sumD:=by
 intro G F A S H vs ds z Q hw rs h q
 obtain ⟨d, rfl, h⟩:=one_some h
 cases rs with
 | cons r rr =>
 cases rr
 obtain ⟨p, xs, us, rfl, h1, h2, h3⟩:=onL_rep r h
 obtain ⟨ns, h4, rfl⟩:=om h3
 have:=intsOf_rep h2 h4
 subst this
 exact ⟨p, ns, rfl, h1, q F H _ (Evl.Ex.refl _) hw (.int _)⟩
theorem l_all {K : PySem.W.Frag} : CallL T K (rAll K) allD:=by
 intro G F A S H vs ds z Q hw rs h q
 obtain ⟨d, rfl, h⟩:=one_some h
 cases rs with
 | cons r rr =>
 cases rr
 obtain ⟨p, xs, us, rfl, h1, h2, h3⟩:=onL_rep r h
 obtain ⟨ns, h4, rfl⟩:=om h3
 have:=boolsOf_rep h2 h4
 subst this
 exact ⟨p, ns, rfl, h1, q F H _ (Evl.Ex.refl _) hw (.bl _)⟩
theorem je_sum (hc : X.calm = true) (hm : X.mg "sum" = none) (ha : JA T X Wx [e] ga) (hg : Gl X "sum":=by rfl) (he : starEach [e] X.env = (false, eval e X.env) :: starEach [] X.env:=by rfl) : JE T X Wx (.Call (.Name "sum" p) [e] [] pos) (fCall sumD ga) :=
 je_callB (cr_sum hc) l_sum hg hm boot_sum ha (by decide) (by decide) he rfl
theorem je_all (hc : X.calm = true) (hm : X.mg "all" = none) (ha : JA T X Wx [e] ga) (hg : Gl X "all":=by rfl) (he : starEach [e] X.env = (false, eval e X.env) :: starEach [] X.env:=by rfl) : JE T X Wx (.Call (.Name "all" p) [e] [] pos) (fCall allD ga) :=
 je_callB (cr_all hc) l_all hg hm boot_all ha (by decide) (by decide) he rfl
def maxI : Int → List Int → Int
 | m, [] => m
 | m, x :: xs => maxI (match decide (m < x) with | true => x | false => m) xs
theorem maxI_ok : ∀ (xs : List Int) (m : Int), (maxI m xs = m ∨ maxI m xs ∈ xs) ∧ m ≤ maxI m xs ∧ ∀ y ∈ xs, y ≤ maxI m xs
 | [], m => ⟨.inl rfl, Int.le_refl _, fun _ h => by cases h⟩
 | x :: xs, m => by
  unfold maxI
  cases h : decide (m < x) with
  | true =>
   have h:=of_decide_eq_true h
   obtain ⟨h1, h2, h3⟩:=maxI_ok xs x
   simp only
   refine ⟨.inr ?_, by omega, fun y hy => ?_⟩
   ·rcases h1 with h1 | h1
    ·rw [h1]; simp
    ·exact List.mem_cons_of_mem _ h1
   ·rcases List.mem_cons.mp hy with rfl | hy
    ·exact h2
    ·exact h3 y hy
  | false =>
   have h:=of_decide_eq_false h
   obtain ⟨h1, h2, h3⟩:=maxI_ok xs m
   simp only
   refine ⟨?_, h2, fun y hy => ?_⟩
   ·rcases h1 with h1 | h1
    ·exact .inl h1
    ·exact .inr (List.mem_cons_of_mem _ h1)
   ·rcases List.mem_cons.mp hy with rfl | hy
    ·omega
    ·exact h3 y hy
def ne1 {α : Type} (f : α → List α → D) : List α → Option D
 | [] => none
 | x :: xs => some (f x xs)
def maxD : List D → Option D:=one (onL fun xs => (intsOf xs).bind (ne1 fun m ns => .int (maxI m ns)))
theorem l_max {K : PySem.W.Frag} : CallL T K (rMax K) maxD:=by
 intro G F A S H vs ds z Q hw rs h q
 obtain ⟨d, rfl, h⟩:=one_some h
 cases rs with
 | cons r rr =>
 cases rr
 obtain ⟨p, xs, us, rfl, h1, h2, h3⟩:=onL_rep r h
 obtain ⟨ns, h4, h5⟩:=ob h3
 have:=intsOf_rep h2 h4
 subst this
 cases ns with
 | nil => cases h5
 | cons m ms =>
  cases h5
  refine ⟨p, m :: ms, rfl, h1, by simp, fun k hk hm => ?_⟩
  obtain ⟨g1, g2, g3⟩:=maxI_ok ms m
  have : k = maxI m ms:=by
   have hle : k ≤ maxI m ms:=by
    rcases List.mem_cons.mp hk with rfl | hk
    ·exact g2
    ·exact g3 k hk
   have hge : maxI m ms ≤ k:=by
    rcases g1 with g1 | g1
    ·rw [g1]; exact hm m (by simp)
    ·exact hm _ (List.mem_cons_of_mem _ g1)
   omega
  subst this
  exact q F H _ (Evl.Ex.refl _) hw (.int _)
theorem je_max (hc : X.calm = true) (hm : X.mg "max" = none) (ha : JA T X Wx [e] ga) (hg : Gl X "max":=by rfl) (he : starEach [e] X.env = (false, eval e X.env) :: starEach [] X.env:=by rfl) : JE T X Wx (.Call (.Name "max" p) [e] [] pos) (fCall maxD ga) :=
 je_callB (cr_max hc) l_max hg hm boot_max ha (by decide) (by decide) he rfl
def max2 : List D → Option D
 | [.int i, .int j] => some (.int (if j > i then j else i))
 | _ => none
def min2 : List D → Option D
 | [.int i, .int j] => some (.int (if j < i then j else i))
 | _ => none
def absD : List D → Option D
 | [.int i] => some (.int (if i < 0 then -i else i))
 | _ => none
def intD : List D → Option D
 | [.int i] => some (.int i)
 | [.bool b] => some (.int (if b then 1 else 0))
 | _ => none
theorem RepUs.one {K : PySem.W.Frag} {F H : Hp} {d : D} {vs : List V} {v : V} (r : RepUs K F H [d] vs) (e : flatD d = some v) : vs = [v]:=by
 cases r with
 | cons r rr =>
  cases rr
  rw [r.flat_of e]
theorem RepUs.two {K : PySem.W.Frag} {F H : Hp} {d d2 : D} {vs : List V} {v v2 : V} (r : RepUs K F H [d, d2] vs) (e : flatD d = some v) (e2 : flatD d2 = some v2) : vs = [v, v2]:=by
 cases r with
 | cons r rr =>
  rw [RepUs.one rr e2, r.flat_of e]
theorem l_max2 {K : PySem.W.Frag} : CallL T K (fun xs H Q => ∃ i j, xs = [.int i, .int j] ∧ Q (.int (if j > i then j else i)) H) max2:=by
 intro G F A S H vs ds z Q hw rs h q
 unfold max2 at h
 split at h
 ·cases h
  exact ⟨_, _, RepUs.two rs rfl rfl, q F H _ (Evl.Ex.refl _) hw (.int _)⟩
 ·cases h
theorem l_min2 {K : PySem.W.Frag} : CallL T K (fun xs H Q => ∃ i j, xs = [.int i, .int j] ∧ Q (.int (if j < i then j else i)) H) min2:=by
 intro G F A S H vs ds z Q hw rs h q
 unfold min2 at h
 split at h
 ·cases h
  exact ⟨_, _, RepUs.two rs rfl rfl, q F H _ (Evl.Ex.refl _) hw (.int _)⟩
 ·cases h
theorem l_abs {K : PySem.W.Frag} : CallL T K (fun xs H Q => ∃ i, xs = [.int i] ∧ Q (.int (if i < 0 then -i else i)) H) absD:=by
 intro G F A S H vs ds z Q hw rs h q
 unfold absD at h
 split at h
 ·cases h
  exact ⟨_, RepUs.one rs rfl, q F H _ (Evl.Ex.refl _) hw (.int _)⟩
 ·cases h
theorem l_int {K : PySem.W.Frag} : CallL T K (fun xs H Q => (∃ i, xs = [.int i] ∧ Q (.int i) H) ∨ ∃ k, xs = [.bl k] ∧ Q (.int (if k then 1 else 0)) H) intD:=by
 intro G F A S H vs ds z Q hw rs h q
 unfold intD at h
 split at h
 ·cases h
  exact .inl ⟨_, RepUs.one rs rfl, q F H _ (Evl.Ex.refl _) hw (.int _)⟩
 ·cases h
  exact .inr ⟨_, RepUs.one rs rfl, q F H _ (Evl.Ex.refl _) hw (.int _)⟩
 ·cases h
theorem je_max2 (hc : X.calm = true) (hm : X.mg "max" = none) (ha : JA T X Wx [a, b] ga) (hg : Gl X "max":=by rfl) (he : starEach [a, b] X.env = (false, eval a X.env) :: starEach [b] X.env:=by rfl) (hpl : (backTo pos (starEach [b] X.env)).any (·.1) = false:=by rfl) : JE T X Wx (.Call (.Name "max" p) [a, b] [] pos) (fCall max2 ga) :=
 je_callB (call_max2 hc) l_max2 hg hm boot_max ha (by decide) (by decide) he hpl
theorem je_min2 (hc : X.calm = true) (hm : X.mg "min" = none) (ha : JA T X Wx [a, b] ga) (hg : Gl X "min":=by rfl) (he : starEach [a, b] X.env = (false, eval a X.env) :: starEach [b] X.env:=by rfl) (hpl : (backTo pos (starEach [b] X.env)).any (·.1) = false:=by rfl) : JE T X Wx (.Call (.Name "min" p) [a, b] [] pos) (fCall min2 ga) :=
 je_callB (call_min2 hc) l_min2 hg hm boot_min ha (by decide) (by decide) he hpl
theorem je_abs (hm : X.mg "abs" = none) (ha : JA T X Wx [e] ga) (hg : Gl X "abs":=by rfl) (he : starEach [e] X.env = (false, eval e X.env) :: starEach [] X.env:=by rfl) : JE T X Wx (.Call (.Name "abs" p) [e] [] pos) (fCall absD ga) :=
 je_callB call_abs l_abs hg hm boot_abs ha (by decide) (by decide) he rfl
theorem je_intC (hm : X.mg "int" = none) (ha : JA T X Wx [e] ga) (hg : Gl X "int":=by rfl) (he : starEach [e] X.env = (false, eval e X.env) :: starEach [] X.env:=by rfl) : JE T X Wx (.Call (.Name "int" p) [e] [] pos) (fCall intD ga) :=
 je_callTy call_int1 l_int hg hm boot_int ha (by decide) (by decide) he rfl
def fNeg (f : FE) : FE:=fun ρ S => (f ρ S).bind fun w S1 => R.lift ((asI w).map fun i => .dat (.int (-i))) S1
theorem je_neg (ha : JE T X Wx a fa) : JE T X Wx (.UnaryOp .USub a pos) (fNeg fa):=by
 obtain ⟨t, h1, s1⟩:=ha
 refine ⟨_, pe_un un_neg h1, fun G F A S H σ ρ Q hw hs hp => ?_⟩
 refine s1 G F A S H σ ρ _ hw hs (hp.bind fun w S1 F1 A1 H1 v1 e1 p1 w1 r1 hp1 => ?_)
 obtain ⟨w', h2, q⟩:=hp1.lift
 obtain ⟨i, h3, rfl⟩:=om h2
 unfold asI at h3
 split at h3
 ·cases h3
  cases r1
  exact ⟨_, rfl, q F1 A1 H1 _ (Evl.Ex.refl _) (Pre.refl _) w1 (.int _)⟩
 ·cases h3
end
end Vz
namespace Vz
open PySem PySem.Spec PyProof.Rows L2
section
variable {T : Tb} {X : Cx} {Wx : WX} {a b e : Expr} {fa fb fe : FE} {pos p : Pos} {es : List Expr} {ga : FA}
def D.cl : D → String
 | .none => "NoneType"
 | .bool _ => "bool"
 | .int _ => "int"
 | .str _ => "str"
 | .list _ => "list"
 | .tup _ _ => "tuple"
 | .dT _ => "dict"
 | .dK _ => "dict"
theorem RepU.ty {K : PySem.W.Frag} {F H : Hp} {d : D} {v : V} (r : RepU K F H d v) : TyX K H v (.type d.cl):=by
 cases r with
 | flat h =>
  cases d with
  | none => cases h; exact .base .non
  | bool _ => cases h; exact .base (.bl _)
  | int _ => cases h; exact .base (.int _)
  | str _ => cases h; exact .base (.str _)
  | _ => cases h
 | lst h _ => exact .base (.lst h)
 | tup _ h _ =>
  rcases h with (h | ⟨o, h⟩) | ⟨o, its, n, h1, h2, _⟩
  ·exact .base (.tup h)
  ·exact .fTuple h
  ·exact .kTuple h1 h2
 | dT h _ => exact .base (.dT h)
 | dK h _ => exact .base (.dK h)
structure Cla (n : String) (g : D → Bool) : Prop where
 kit : ∀ d, kitB d.cl n = some (g d)
def gInt : D → Bool
 | .int _ => true
 | .bool _ => true
 | _ => false
def gBool : D → Bool
 | .bool _ => true
 | _ => false
def gStr : D → Bool
 | .str _ => true
 | _ => false
def gList : D → Bool
 | .list _ => true
 | _ => false
def gTup : D → Bool
 | .tup _ _ => true
 | _ => false
theorem cl_all {n : String} {g : D → Bool} (h1 : kitB "NoneType" n = some (g .none)) (h2 : ∀ b, kitB "bool" n = some (g (.bool b))) (h3 : ∀ b, kitB "int" n = some (g (.int b))) (h4 : ∀ b, kitB "str" n = some (g (.str b))) (h5 : ∀ b, kitB "list" n = some (g (.list b)))
  (h6 : ∀ f b, kitB "tuple" n = some (g (.tup f b))) (h7 : ∀ b, kitB "dict" n = some (g (.dT b))) (h8 : ∀ b, kitB "dict" n = some (g (.dK b))) : Cla n g:=⟨fun d => by
 cases d with
 | none => exact h1
 | bool b => exact h2 b
 | int b => exact h3 b
 | str b => exact h4 b
 | list b => exact h5 b
 | tup f b => exact h6 f b
 | dT b => exact h7 b
 | dK b => exact h8 b⟩
theorem cla_int : Cla "int" gInt:=cl_all (by decide +kernel) (fun _ => (by decide +kernel : kitB "bool" "int" = some true)) (fun _ => (by decide +kernel : kitB "int" "int" = some true)) (fun _ => (by decide +kernel : kitB "str" "int" = some false)) (fun _ => (by decide +kernel : kitB "list" "int" = some false)) (fun _ _ => (by decide +kernel : kitB "tuple" "int" = some false)) (fun _ => (by decide +kernel : kitB "dict" "int" = some false)) (fun _ => (by decide +kernel : kitB "dict" "int" = some false))
theorem cla_bool : Cla "bool" gBool:=cl_all (by decide +kernel) (fun _ => (by decide +kernel : kitB "bool" "bool" = some true)) (fun _ => (by decide +kernel : kitB "int" "bool" = some false)) (fun _ => (by decide +kernel : kitB "str" "bool" = some false)) (fun _ => (by decide +kernel : kitB "list" "bool" = some false)) (fun _ _ => (by decide +kernel : kitB "tuple" "bool" = some false)) (fun _ => (by decide +kernel : kitB "dict" "bool" = some false)) (fun _ => (by decide +kernel : kitB "dict" "bool" = some false))
theorem cla_str : Cla "str" gStr:=cl_all (by decide +kernel) (fun _ => (by decide +kernel : kitB "bool" "str" = some false)) (fun _ => (by decide +kernel : kitB "int" "str" = some false)) (fun _ => (by decide +kernel : kitB "str" "str" = some true)) (fun _ => (by decide +kernel : kitB "list" "str" = some false)) (fun _ _ => (by decide +kernel : kitB "tuple" "str" = some false)) (fun _ => (by decide +kernel : kitB "dict" "str" = some false)) (fun _ => (by decide +kernel : kitB "dict" "str" = some false))
theorem cla_list : Cla "list" gList:=cl_all (by decide +kernel) (fun _ => (by decide +kernel : kitB "bool" "list" = some false)) (fun _ => (by decide +kernel : kitB "int" "list" = some false)) (fun _ => (by decide +kernel : kitB "str" "list" = some false)) (fun _ => (by decide +kernel : kitB "list" "list" = some true)) (fun _ _ => (by decide +kernel : kitB "tuple" "list" = some false)) (fun _ => (by decide +kernel : kitB "dict" "list" = some false)) (fun _ => (by decide +kernel : kitB "dict" "list" = some false))
theorem cla_tup : Cla "tuple" gTup:=cl_all (by decide +kernel) (fun _ => (by decide +kernel : kitB "bool" "tuple" = some false)) (fun _ => (by decide +kernel : kitB "int" "tuple" = some false)) (fun _ => (by decide +kernel : kitB "str" "tuple" = some false)) (fun _ => (by decide +kernel : kitB "list" "tuple" = some false)) (fun _ _ => (by decide +kernel : kitB "tuple" "tuple" = some true)) (fun _ => (by decide +kernel : kitB "dict" "tuple" = some false)) (fun _ => (by decide +kernel : kitB "dict" "tuple" = some false))
def fIsi (g : D → Bool) (f : FE) : FE:=fun ρ S => (f ρ S).bind fun w S1 => R.lift ((rd S1 w).map fun d => .dat (.bool (g d))) S1
theorem je_isi {n : String} {g : D → Bool} {x : Str} {p1 p2 : Pos} (hc : Cla n g) (hb : bootBuiltins x = some (.type n)) (hm : X.mg "isinstance" = none) (hmx : X.mg x = none) (ha : JE T X Wx a fa) (hg : Gl X "isinstance":=by rfl) (hgx : Gl X x:=by rfl)
  (hnx : x ≠ "__name__":=by decide) (hdx : (x == ("__debug__" : Str)) = false:=by decide)
  (he : starEach [a, .Name x p2] X.env = (false, eval a X.env) :: starEach [.Name x p2] X.env:=by rfl) (he2 : starEach [.Name x p2] X.env = (false, eval (.Name x p2) X.env) :: starEach [] X.env:=by rfl) (hpl : (backTo pos (starEach [.Name x p2] X.env)).any (·.1) = false:=by rfl) :
  JE T X Wx (.Call (.Name "isinstance" p1) [a, .Name x p2] [] pos) (fIsi g fa):=by
 obtain ⟨t, h1, s1⟩:=ha
 have hA : PA X [a, .Name x p2] (tCons t (tCons (tC (.ty n)) tNil)):=pa_cons h1 (pa_cons (pe_bltn hgx hmx hb (show RelV (.ty n) (.type n) from rfl) hnx hdx) pa_nil he2) he
 refine ⟨_, pe_callB call_isi hg hm boot_isinstance hA (by decide) (by decide) he hpl, fun G F A S H σ ρ Q hw hs hp => ?_⟩
 refine s1 G F A S H σ ρ _ hw hs (hp.bind fun w S1 F1 A1 H1 v1 e1 p1 w1 r1 hp1 => ?_)
 obtain ⟨w', h2, q⟩:=hp1.lift
 obtain ⟨d, h3, rfl⟩:=om h2
 have rr:=rd_rep w1 r1 h3
 exact ⟨v1, .ty n, _, _, g d, rfl, .ty n, rr.ty, kit_ty (hc.kit d), q F1 A1 H1 _ (Evl.Ex.refl _) (Pre.refl _) w1 (.bl _)⟩
theorem je_isi2 {n n2 : String} {g g2 : D → Bool} {x x2 : Str} {p1 p2 p3 pt : Pos} {kt : Nat} (hc : Cla n g) (hc2 : Cla n2 g2) (hb : bootBuiltins x = some (.type n)) (hb2 : bootBuiltins x2 = some (.type n2)) (hm : X.mg "isinstance" = none) (hmx : X.mg x = none) (hmx2 : X.mg x2 = none) (ha : JE T X Wx a fa)
  (hg : Gl X "isinstance":=by rfl) (hgx : Gl X x:=by rfl) (hgx2 : Gl X x2:=by rfl)
  (hnx : x ≠ "__name__":=by decide) (hdx : (x == ("__debug__" : Str)) = false:=by decide) (hnx2 : x2 ≠ "__name__":=by decide) (hdx2 : (x2 == ("__debug__" : Str)) = false:=by decide)
  (he : starEach [a, .Tuple [.Name x p2, .Name x2 p3] kt pt] X.env = (false, eval a X.env) :: starEach [.Tuple [.Name x p2, .Name x2 p3] kt pt] X.env:=by rfl) (he2 : starEach [.Tuple [.Name x p2, .Name x2 p3] kt pt] X.env = (false, eval (.Tuple [.Name x p2, .Name x2 p3] kt pt) X.env) :: starEach [] X.env:=by rfl)
  (he3 : starEach [.Name x p2, .Name x2 p3] X.env = (false, eval (.Name x p2) X.env) :: starEach [.Name x2 p3] X.env:=by rfl) (he4 : starEach [.Name x2 p3] X.env = (false, eval (.Name x2 p3) X.env) :: starEach [] X.env:=by rfl)
  (hpl : (backTo pos (starEach [.Tuple [.Name x p2, .Name x2 p3] kt pt] X.env)).any (·.1) = false:=by rfl) :
  JE T X Wx (.Call (.Name "isinstance" p1) [a, .Tuple [.Name x p2, .Name x2 p3] kt pt] [] pos) (fIsi (fun d => g d || g2 d) fa):=by
 obtain ⟨t, h1, s1⟩:=ha
 have hT:=pe_tup (x1:=kt) (pos:=pt) (pa_cons (pe_bltn hgx hmx hb (show RelV (.ty n) (.type n) from rfl) hnx hdx (pos:=p2)) (pa_cons (pe_bltn hgx2 hmx2 hb2 (show RelV (.ty n2) (.type n2) from rfl) hnx2 hdx2 (pos:=p3)) pa_nil he4) he3)
 refine ⟨_, pe_callB call_isiT hg hm boot_isinstance (pa_cons h1 (pa_cons hT pa_nil he2) he) (by decide) (by decide) he hpl, fun G F A S H σ ρ Q hw hs hp => ?_⟩
 refine s1 G F A S H σ ρ _ hw hs (hp.bind fun w S1 F1 A1 H1 v1 e1 p1 w1 r1 hp1 => ?_)
 obtain ⟨w', h2, q⟩:=hp1.lift
 obtain ⟨d, h3, rfl⟩:=om h2
 have rr:=rd_rep w1 r1 h3
 refine ⟨by show 2 ≤ sizeLine; exact lim_le (by decide), fun pp hpn => ?_⟩
 have w2:=w1.junk hpn (.tup [.ty n, .ty n2])
 have rr2:=rd_rep w2 r1 h3
 refine ⟨v1, pp, _, _, [.type n, .type n2], g d || g2 d, rfl, upd_same, .cons (.ty n) (.cons (.ty n2) .nil), rr2.ty, ?_, q F1 A1 _ _ (Evl.Ex.refl _) (Pre.refl _) w2 (.bl _)⟩
 refine kitAny_cons (kit_ty (hc.kit d)) (fun h => ?_) (fun h => by rw [h]; rfl)
 refine kitAny_cons (kit_ty (hc2.kit d)) (fun h' => ?_) (fun h' => by rw [h, h']; rfl)
 rw [h, h']
 exact kitAny_nil

def fLenS (f : FE) : FE:=fun ρ S => (f ρ S).bind fun w S1 => match w with
 | .scr ns => .ok (.dat (.int (ns.length : Nat))) S1
 | _ => .bad
theorem je_lenS (hm : X.mg "len" = none) (ha : JE T X Wx e fe) (hg : Gl X "len":=by rfl) (he : starEach [e] X.env = (false, eval e X.env) :: starEach [] X.env:=by rfl) : JE T X Wx (.Call (.Name "len" p) [e] [] pos) (fLenS fe):=by
 obtain ⟨t, h1, s1⟩:=ha
 refine ⟨_, pe_callB call_len hg hm boot_len (pa_cons h1 pa_nil he) (by decide) (by decide) he rfl, fun G F A S H σ ρ Q hw hs hp => ?_⟩
 refine s1 G F A S H σ ρ _ hw hs (hp.bind fun w S1 F1 A1 H1 v1 e1 p1 w1 r1 hp1 => ?_)
 cases w with
 | scr ns =>
  obtain ⟨q, rfl, hq⟩:=r1
  exact ⟨_, _, rfl, .inl ⟨_, sql_mono w1.sub hq, rfl⟩, hp1 F1 A1 H1 _ (Evl.Ex.refl _) (Pre.refl _) w1 (by rw [List.length_map]; exact .int _)⟩
 | _ => exact hp1.elim
def fIxS (f g : FE) : FE:=fun ρ S => (f ρ S).bind fun w S1 => (g ρ S1).bind fun i S2 => match w, i with
 | .scr ns, .dat (.int i) => R.lift ((atI ns i).map fun n => .dat (.int n)) S2
 | _, _ => .bad
theorem je_ixS (ha : JE T X Wx a fa) (hb : JE T X Wx b fb) (hs : PlainIx b:=by intro _ _; rfl) : JE T X Wx (.Subscript a b pos) (fIxS fa fb):=by
 obtain ⟨ta, h1, s1⟩:=ha
 obtain ⟨tb, h2, s2⟩:=hb
 refine ⟨_, pe_ix ix_list h1 h2 hs, fun G F A S H σ ρ Q hw hs hp => ?_⟩
 refine s1 G F A S H σ ρ _ hw hs (hp.bind fun w S1 F1 A1 H1 v1 e1 p1 w1 r1 hp1 => ?_)
 refine s2 G F1 A1 S1 H1 σ ρ _ w1 (hs.mono e1 p1) (hp1.bind fun i S2 F2 A2 H2 v2 e2 p2 w2 r2 hp2 => ?_)
 split at hp2
 ·rename_i ns k
  obtain ⟨w', h3, q⟩:=hp2.lift
  obtain ⟨n, h4, rfl⟩:=om h3
  obtain ⟨pp, rfl, hq⟩:=r1
  cases r2
  refine ⟨pp, _, k, .int n, rfl, rfl, sql_mono (e2.trans w2.sub) hq, ?_, q F2 A2 H2 _ (Evl.Ex.refl _) (Pre.refl _) w2 (.int _)⟩
  unfold atI at h4 ⊢
  rw [List.length_map]
  obtain ⟨j, g1, g2⟩:=ob h4
  rw [g1, Option.bind_some, List.getElem?_map, g2]
  rfl
 ·exact hp2.elim

theorem ip_mul : PIp X .Mult (rI CMul fun i j => .int (i * j)):=iop_mul
theorem js_augMul {i : Nat} {x : Str} {pos' : Pos} (hN : X.N.Nodup) (he : JE T X Wx e fe) (hi : X.N[i]? = some x:=by rfl) (hx : Loc X.env.scope x:=by first | exact Or.inl rfl | exact Or.inr rfl)
  (hf : X.fn x = true ∨ X.env.scope.names.lookup x = some .local:=by first | exact .inl rfl | exact .inr rfl | assumption) : JS T X Wx (.AugAssign (.Name x pos') .Mult e pos) (sAug i mulI fe) :=
 js_aug hN he ip_mul l_mulI hi hx hf
theorem js_augAdd {i : Nat} {x : Str} {pos' : Pos} (hN : X.N.Nodup) (he : JE T X Wx e fe) (hi : X.N[i]? = some x:=by rfl) (hx : Loc X.env.scope x:=by first | exact Or.inl rfl | exact Or.inr rfl)
  (hf : X.fn x = true ∨ X.env.scope.names.lookup x = some .local:=by first | exact .inl rfl | exact .inr rfl | assumption) : JS T X Wx (.AugAssign (.Name x pos') .Add e pos) (sAug i addI fe) :=
 js_aug hN he ip_add l_addI hi hx hf

theorem je_eq (hu : X.A.units + 64 < cLine) (ha : JE T X Wx a fa) (hb : JE T X Wx b fb) (hm : behindInMarks .Eq b = false:=by rfl) : JE T X Wx (.Compare a [.Eq] [b] pos) (fBin eqD fa fb):=je_cmp (op_eqD hu) l_eqD ha hb hm
theorem je_is (ha : JE T X Wx a fa) (hb : JE T X Wx b fb) (hm : behindInMarks .Is b = false:=by rfl) : JE T X Wx (.Compare a [.Is] [b] pos) (fBin isN fa fb):=je_cmp op_isN l_isN ha hb hm
theorem je_isnt (ha : JE T X Wx a fa) (hb : JE T X Wx b fb) (hm : behindInMarks .IsNot b = false:=by rfl) : JE T X Wx (.Compare a [.IsNot] [b] pos) (fBin isNN fa fb):=je_cmp op_notN l_isNN ha hb hm
theorem je_lt (ha : JE T X Wx a fa) (hb : JE T X Wx b fb) (hm : behindInMarks .Lt b = false:=by rfl) : JE T X Wx (.Compare a [.Lt] [b] pos) (fBin ltI fa fb):=je_cmp op_lt l_ltI ha hb hm
theorem je_ge (ha : JE T X Wx a fa) (hb : JE T X Wx b fb) (hm : behindInMarks .GtE b = false:=by rfl) : JE T X Wx (.Compare a [.GtE] [b] pos) (fBin geI fa fb):=je_cmp op_ge l_geI ha hb hm
theorem je_in (hu : X.A.units + 65 < cLine) (ha : JE T X Wx a fa) (hb : JE T X Wx b fb) (hm : behindInMarks .In b = false:=by rfl) : JE T X Wx (.Compare a [.In] [b] pos) (fBin (inD false) fa fb):=je_cmp (op_inX hu) (l_in false) ha hb hm
end
end Vz
namespace Vz
open PySem PySem.Spec PyProof.Rows L2
theorem hu65 {k : Nat} {A : Around} (r : Room k A) : A.units + 65 < cLine:=by have:=r.un; omega
theorem hu64 {k : Nat} {A : Around} (r : Room k A) : A.units + 64 < cLine:=by have:=r.un; omega
theorem hu1 {k : Nat} {A : Around} (r : Room k A) : A.units + 1 < cLine:=by have:=r.un; omega
structure Ok (T : Tb) (P : Program) (w : World) (K : PySem.W.Frag) (mg : Str → Option Value) (base : Heap) (k : Nat) (x : Str) (ps : List Str) (f : List W → Sto → R W) : Prop where
 ex : ∃ fd, FnOk P w K mg base (L2.CX P w) k (He.ga K x) fd ps (spV T K ps.length f) ∧ Binds K fd ps [] ∧ ∃ oc od osl, K.lookup (He.ga K x) = some ⟨oc, od, .func fd, osl⟩
 keep : PySem.W.keepIn K (.ref (He.ga K x)) = true
 glo : mg x = some (.ref (He.ga K x))
section
variable {T : Tb} {X : Cx} {Wx : WX} {k n : Nat} {x : Str} {ps : List Str} {g : List W → Sto → R W} {ga : FA} {e : Expr} {es : List Expr} {p pos : Pos}
end
section
variable {T : Tb} {P : Program} {w : World} {K : PySem.W.Frag} {mg : Str → Option Value} {base : Heap} {x qual : Str} {params : Arguments} {body : List Stmt} {scope : Scope}
theorem look_of {f : Addr} {fd : FuncData} {dvs : List V} {kws : List (Str × V)} (F : FunD K x qual params body scope dvs kws f fd) : ∃ oc od osl, K.lookup f = some ⟨oc, od, .func fd, osl⟩:=by
 obtain ⟨oc, od, dV, kV, doc, pm, an, cdv, ct, osl, _, h, _⟩:=F.ex
 exact ⟨oc, od, osl, h⟩
def fBad : List W → Sto → R W:=fun _ _ => .bad
theorem ok_bad {ps : List Str} (hF : ∃ fd, FunD K x qual params body scope [] [] (He.ga K x) fd) (hg : mg x = some (.ref (He.ga K x)))
  (hb : ∀ (kV doc pm : Value) (an : Option Addr) (cdv ct : Value) (us : List Value), us.length = ps.length → bindArgs (PySem.W.fnOf x qual params body scope .none kV doc pm an cdv ct) ⟨us, []⟩ = pure (ps.zip us)) (k : Nat) : Ok T P w K mg base k x ps fBad:=by
 obtain ⟨fd, F⟩:=hF
 refine ⟨⟨fd, ⟨fun vs H Q E h => ?_, fun A outer s H args us vs Q E hr he hbb hv h => ?_⟩, F.bindsN hb, look_of F⟩, F.kp, hg⟩
 ·obtain ⟨G, F, A, S, ws, hn, hw, hr, hp⟩:=h
  rw [← rws_len hr]
  exact hn
 ·obtain ⟨G, F, A, S, ws, hn, hw, hr, hp⟩:=h
  exact hp.elim
theorem Ok.mono {j k : Nat} {ps : List Str} {f : List W → Sto → R W} (O : Ok T P w K mg base j x ps f) (h : j ≤ k) : Ok T P w K mg base k x ps f:=by
 obtain ⟨⟨fd, h1, h2, h5⟩, h3, h4⟩:=O
 exact ⟨⟨fd, h1.mono h, h2, h5⟩, h3, h4⟩
end
theorem Ok.at_fd {T : Tb} {P : Program} {w : World} {K : PySem.W.Frag} {mg : Str → Option Value} {base : Heap} {k : Nat} {x : Str} {ps : List Str} {f : List W → Sto → R W} {fd : FuncData} (O : Ok T P w K mg base k x ps f) (h : ∃ oc od osl, K.lookup (He.ga K x) = some ⟨oc, od, .func fd, osl⟩) :
  FnOk P w K mg base (L2.CX P w) k (He.ga K x) fd ps (spV T K ps.length f):=by
 obtain ⟨fd', h1, _, oc, od, osl, h2⟩:=O.ex
 obtain ⟨oc', od', osl', h3⟩:=h
 rw [h2] at h3
 cases h3
 exact h1
def CXL : CXT:=fun outer H s E u s' => ∃ (P : Program) (w : World), L2.CX P w outer H s E u s'
theorem cxl_end (H : Hp) (s : Shared) (e : Value) (s' : Shared) (h : CXL [] H s (fun _ _ _ => False) e s') : False:=by
 obtain ⟨P, w, a, B, H', cls, d, _, _, _, _, _, _, _, h⟩:=h
 exact h
def lstsOf (H : Hp) : Hp:=fun b => match H b with
 | some (.lst x) => some (.lst x)
 | some (.frz o x) => some (.frz o x)
 | _ => none
theorem lstsOf_sub {H : Hp} : Evl.Ex (lstsOf H) H:=fun b u e => by
 unfold lstsOf at e
 split at e
 ·rename_i x q
  rw [q]; exact e
 ·rename_i o x q
  rw [q]; exact e
 ·cases e
theorem lstsOf_nt {H : Hp} (b : Addr) (ps : Array Value) : lstsOf H b ≠ some (.tbl ps):=fun e => by
 unfold lstsOf at e
 split at e
 ·cases e
 ·cases e
 ·cases e
theorem sp_law {T : Tb} {K : PySem.W.Frag} {F : List W → Sto → R W} {H : Hp} {a : Addr} {ns : List Int} (hS : SqL K H a (ns.map V.int)) (hF : ∃ S, F [.scr ns] [] = .ok (.dat (.bool true)) S) (hT : ∀ p ∈ T.tabs, H p.1 = some (.tbl #[])) :
  spV T K 1 F [.ref a] H (fun v _ => v = .bl true) fun _ _ _ => False:=by
 obtain ⟨S, hF⟩:=hF
 have hf : ∀ p ∈ T.tabs, lstsOf H p.1 = none:=fun p hp => by
  unfold lstsOf
  rw [hT p hp]
 have hs : SqL K (lstsOf H) a (ns.map V.int):=by
  rcases hS with (h | ⟨o, h⟩) | h
  ·exact .inl (.inl (by unfold lstsOf; rw [h]))
  ·exact .inl (.inr ⟨o, by unfold lstsOf; rw [h]⟩)
  ·exact .inr h
 refine ⟨fun _ => none, lstsOf H, [], [], [.scr ns], rfl, ⟨lstsOf_sub, rfl, fun k as c h => by simp at h, by simp, fun a h => by simp at h, (fun _ _ h => nomatch h), fun a h => rfl, fun _ _ _ => .inl rfl,
  ⟨fun p hp => LamX.TabS.nil (hT p hp), hf, fun _ _ => rfl, fun _ _ m => by simp at m, lstsOf_nt, fun _ _ z => (nomatch z), fun _ m => by simp at m⟩⟩, .cons ⟨a, rfl, hs⟩ .nil, ?_⟩
 rw [hF]
 intro F' A' H' v _ _ _ r
 cases r
 rfl
end Vz
namespace Vz
open PySem PySem.Spec PyProof.Rows L2
def bSource : FS:=sSeq (sSet 2 (fC (D.int 0)))
 (sSeq (sIf (fB (fBin ltI (fVar 1) (fLenS (fVar 0)))) (sSet 2 (fIxS (fVar 0) (fVar 1))) sNil)
  (sRet (fCell (lDisp (aCons
      (fBin mulD (fCall absD (aCons (fVar 2) aNil)) (fCall intD (aCons (fBin geI (fCall absD (aCons (fVar 2) aNil)) (fBin powI (fC (D.int 10)) (fC (D.int 18)))) aNil)))
      (aCons (fBin modI (fBin mulD (fBin addD (fBin addD (fBin modI (fVar 2) (fC (D.int 2147483563))) (fBin mulD (fC (D.int 88001)) (fVar 1))) (fC (D.int 61))) (fC (D.int 39869))) (fC (D.int 2147483543)))
       (aCons (fC (D.int 0)) aNil)))))))
def absI (c : Int) : Int:=if c < 0 then -c else c
def srcA (c : Int) : Int:=absI c * (if (decide ((10 : Int) ^ 18 ≤ absI c)) then 1 else 0)
def srcB (c i : Int) : Int:=(c % 2147483563 + 88001 * i + 61) * 39869 % 2147483543
def cellAt (ns : List Int) (i : Nat) : Int:=ns.getD i 0
theorem mul_01 (i : Int) (b : Bool) : mulD (.int i) (.int (if b then 1 else 0)) = some (.int (i * (if b then 1 else 0))):=by
 have : mulI (.int i) (.int (if b then 1 else 0)) = some (.int (i * (if b then 1 else 0))):=by
  unfold mulI gI
  cases b <;> simp [ifO]
 unfold mulD orD
 rw [this]
theorem mul_c (i : Int) : mulD (.int i) (.int 39869) = some (.int (i * 39869)):=by
 have : mulI (.int i) (.int 39869) = some (.int (i * 39869)):=by
  unfold mulI gI
  simp [ifO]
 unfold mulD orD
 rw [this]
section
variable {fa fb f : FE} {ga : FA} {ρ : Rho} {S S1 S2 : Sto} {w wa wb : W} {ws : List W} {d : D} {ds : List D}
theorem x_bin {g : D → D → Option D} (h1 : fa ρ S = .ok wa S1) (h2 : fb ρ S1 = .ok wb S2) (h3 : rd2 S2 wa wb g = some d) : fBin g fa fb ρ S = .ok (.dat d) S2:=by
 unfold fBin
 rw [h1]
 show R.bind (fb ρ S1) _ = _
 rw [h2]
 show R.lift ((rd2 S2 wa wb g).map W.dat) S2 = _
 rw [h3]
 rfl
theorem x_cons (h1 : fa ρ S = .ok w S1) (h2 : ga ρ S1 = .ok ws S2) : aCons fa ga ρ S = .ok (w :: ws) S2:=by
 unfold aCons
 rw [h1]
 show R.bind (ga ρ S1) _ = _
 rw [h2]
 rfl
theorem x_call {g : List D → Option D} (h1 : ga ρ S = .ok ws S1) (h2 : (rds S1 ws).bind g = some d) : fCall g ga ρ S = .ok (.dat d) S1:=by
 unfold fCall
 rw [h1]
 show R.lift (((rds S1 ws).bind g).map W.dat) S1 = _
 rw [h2]
 rfl
theorem x_disp (h1 : ga ρ S = .ok ws S1) (h2 : (dats ws).bind small = some ds) : lDisp ga ρ S = .ok ds S1:=by
 unfold lDisp
 rw [h1]
 show R.lift ((dats ws).bind small) S1 = _
 rw [h2]
 rfl
theorem x_cell {g : FL} (h1 : g ρ S = .ok ds S1) : fCell g ρ S = .ok (.loc S1.length 0) (S1 ++ [.lst ds]):=by
 unfold fCell
 rw [h1]
 rfl
theorem x_ret (h1 : f ρ S = .ok w S1) : sRet f ρ S = .rt w S1:=by
 unfold sRet
 rw [h1]
 rfl
end
theorem source_tail (ns : List Int) (i : Nat) (c : Int) :
  (sRet (fCell (lDisp (aCons
      (fBin mulD (fCall absD (aCons (fVar 2) aNil)) (fCall intD (aCons (fBin geI (fCall absD (aCons (fVar 2) aNil)) (fBin powI (fC (D.int 10)) (fC (D.int 18)))) aNil)))
      (aCons (fBin modI (fBin mulD (fBin addD (fBin addD (fBin modI (fVar 2) (fC (D.int 2147483563))) (fBin mulD (fC (D.int 88001)) (fVar 1))) (fC (D.int 61))) (fC (D.int 39869))) (fC (D.int 2147483543)))
       (aCons (fC (D.int 0)) aNil)))))) [some (.scr ns), some (.dat (.int i)), some (.dat (.int c))] [] = .rt (.loc 0 0) [.lst [.int (srcA c), .int (srcB c i), .int 0]]:=by
 have e2 : fBin geI (fCall absD (aCons (fVar 2) aNil)) (fBin powI (fC (D.int 10)) (fC (D.int 18))) [some (.scr ns), some (.dat (.int i)), some (.dat (.int c))] [] = .ok (.dat (.bool (decide ((10 : Int) ^ 18 ≤ absI c)))) []:=rfl
 have e1 : fCall absD (aCons (fVar 2) aNil) [some (.scr ns), some (.dat (.int i)), some (.dat (.int c))] [] = .ok (.dat (.int (absI c))) []:=rfl
 have e6 : fBin addD (fBin addD (fBin modI (fVar 2) (fC (D.int 2147483563))) (fBin mulD (fC (D.int 88001)) (fVar 1))) (fC (D.int 61)) [some (.scr ns), some (.dat (.int i)), some (.dat (.int c))] [] = .ok (.dat (.int (c % 2147483563 + 88001 * i + 61))) []:=rfl
 exact x_ret (x_cell (S1:=[]) (x_disp (x_cons (x_bin e1 (x_call (x_cons e2 rfl) rfl) (mul_01 _ _)) (x_cons (x_bin (x_bin e6 rfl (mul_c _)) rfl rfl) (x_cons rfl rfl))) rfl))
section
variable {g h : FS} {t : FT} {f : FE} {ρ ρ' : Rho} {S S1 S2 : Sto} {w : W} {r : Out}
theorem x_seq (h1 : g ρ S = .nx ρ' S1) (h2 : h ρ' S1 = r) : sSeq g h ρ S = r:=by
 unfold sSeq
 rw [h1]
 exact h2
theorem x_ift (h1 : t ρ S = .ok true S1) (h2 : g ρ S1 = r) : sIf t g h ρ S = r:=by
 unfold sIf
 rw [h1]
 exact h2
theorem x_iff (h1 : t ρ S = .ok false S1) (h2 : h ρ S1 = r) : sIf t g h ρ S = r:=by
 unfold sIf
 rw [h1]
 exact h2
theorem x_set {i : Nat} (h1 : f ρ S = .ok w S1) : sSet i f ρ S = .nx (ρ.set i (some w)) S1:=by
 unfold sSet
 rw [h1]
 rfl
end
theorem source_eq (ns : List Int) (i : Nat) : runF 3 true bSource [.scr ns, .dat (.int i)] [] = .ok (.loc 0 0) [.lst [.int (srcA (cellAt ns i)), .int (srcB (cellAt ns i) i), .int 0]]:=by
 have t1 : fB (fBin ltI (fVar 1) (fLenS (fVar 0))) [some (.scr ns), some (.dat (.int i)), some (.dat (.int 0))] [] = .ok (decide ((i : Int) < (ns.length : Nat))) []:=rfl
 have h1 : bSource [some (.scr ns), some (.dat (.int i)), none] [] = .rt (.loc 0 0) [.lst [.int (srcA (cellAt ns i)), .int (srcB (cellAt ns i) i), .int 0]]:=by
  refine x_seq (x_set (w:=.dat (.int 0)) (S1:=[]) rfl) ?_
  refine x_seq (ρ':=[some (.scr ns), some (.dat (.int i)), some (.dat (.int (cellAt ns i)))]) (S1:=[]) ?_ (source_tail ns i (cellAt ns i))
  by_cases h : i < ns.length
  ·rw [decide_eq_true (by exact_mod_cast h)] at t1
   refine x_ift t1 ?_
   have : atI ns (i : Int) = some (cellAt ns i):=by
    unfold atI ixN cellAt
    rw [if_pos (Int.natCast_nonneg i), if_pos (by exact_mod_cast h)]
    simp [h]
   refine x_set (w:=.dat (.int (cellAt ns i))) (S1:=[]) ?_
   show R.lift ((atI ns (i : Int)).map _) [] = _
   rw [this]
   rfl
  ·rw [decide_eq_false (by exact_mod_cast h)] at t1
   have : cellAt ns i = 0:=by
    unfold cellAt
    simp [List.getD_eq_getElem?_getD, List.getElem?_eq_none (Nat.le_of_not_lt h)]
   rw [this]
   exact x_iff t1 rfl
 have e : runF 3 true bSource [.scr ns, .dat (.int i)] [] = (bSource [some (.scr ns), some (.dat (.int i)), none] []).fn true 0:=rfl
 rw [e, h1]
 rfl
def bLaw (m : Nat) (Fs Fh : List W → Sto → R W) : FS:=sRet (fCall allD (aCons (fFrz (lComp (iArgs rng1 (aCons (fCall max2 (aCons (fC (.int 1)) (aCons (fCall min2 (aCons (fC (.int m)) (aCons (fLenS (fVar 0)) aNil))) aNil))) aNil)) [1] (cName 1) fYes
 (fApp 1 Fh (aCons (fApp 2 Fs (aCons (fVar 0) (aCons (fVar 1) aNil))) aNil)))) aNil))
theorem boolsOf_repl (n : Nat) : boolsOf (List.replicate n (D.bool true)) = some (List.replicate n true):=by
 induction n with
 | zero => rfl
 | succ n ih =>
  rw [List.replicate_succ, List.replicate_succ]
  simp only [boolsOf]
  rw [ih]
  rfl
theorem rng_get {lo : Int} {n i : Nat} (h : i < n) : (rng lo n)[i]? = some (.int (lo + (i : Int))):=by
 unfold rng
 rw [List.getElem?_map, List.getElem?_range h]
 rfl
theorem rng_len {lo : Int} {n : Nat} : (rng lo n).length = n:=by
 unfold rng
 rw [List.length_map, List.length_range]
theorem lcF_true {bd : D → Sto → R (Option D)} {n : Nat} (h : ∀ i : Nat, i < n → ∃ S, bd (.int (i : Int)) [] = .ok (some (.bool true)) S) : ∀ (m i : Nat), i + m = n → lcF 0 bd (.ds (rng 0 n)) m i [] = .ok (List.replicate m (.bool true)) []
 | 0, i, e => by
  have hi : i = n:=by omega
  subst hi
  unfold lcF
  have : (rng 0 i)[i]? = none:=List.getElem?_eq_none (by rw [rng_len]; exact Nat.le_refl _)
  simp only [Wk.ls, this]
  rw [decide_eq_true rng_len]
  rfl
 | m + 1, i, e => by
  unfold lcF
  simp only [Wk.ls, rng_get (lo:=0) (show i < n by omega)]
  obtain ⟨S, hS⟩:=h i (by omega)
  rw [Int.zero_add, hS]
  show R.bind (lcF 0 bd (.ds (rng 0 n)) m (i + 1) []) _ = _
  rw [lcF_true h m (i + 1) (by omega)]
  rfl
theorem law_all (m : Nat) (Fs Fh : List W → Sto → R W) (ns : List Int) (hm : m ≤ 100) (c : Nat → C) (hs : ∀ i : Nat, Fs [.scr ns, .dat (.int i)] [] = .ok (.loc 0 0) [c i]) (hh : ∀ i : Nat, i < m ∨ i = 0 → ∃ S, Fh [.loc 0 0] [c i] = .ok (.dat (.bool true)) S) :
  runF 2 false (bLaw m Fs Fh) [.scr ns] [] = .ok (.dat (.bool true)) []:=by
 obtain ⟨n, hn, hn2, hn3⟩ : ∃ n : Nat, (if (if ((ns.length : Nat) : Int) < (m : Int) then ((ns.length : Nat) : Int) else (m : Int)) > 1 then (if ((ns.length : Nat) : Int) < (m : Int) then ((ns.length : Nat) : Int) else (m : Int)) else 1) = (n : Int) ∧ n ≤ 100 ∧ (n ≤ m ∨ n = 1):=by
  by_cases h1 : ((ns.length : Nat) : Int) < (m : Int)
  ·rw [if_pos h1]
   by_cases h2 : ((ns.length : Nat) : Int) > 1
   ·exact ⟨ns.length, if_pos h2, by omega, by omega⟩
   ·exact ⟨1, if_neg h2, by omega, by omega⟩
  ·rw [if_neg h1]
   by_cases h2 : (m : Int) > 1
   ·exact ⟨m, if_pos h2, by omega, by omega⟩
   ·exact ⟨1, if_neg h2, by omega, by omega⟩
 have e1 : fCall max2 (aCons (fC (.int 1)) (aCons (fCall min2 (aCons (fC (.int m)) (aCons (fLenS (fVar 0)) aNil))) aNil)) [some (.scr ns), none] [] = .ok (.dat (.int (n : Int))) []:=by
  rw [← hn]
  rfl
 have e2 : iArgs rng1 (aCons (fCall max2 (aCons (fC (.int 1)) (aCons (fCall min2 (aCons (fC (.int m)) (aCons (fLenS (fVar 0)) aNil))) aNil))) aNil) [some (.scr ns), none] [] = .ok (.ds (rng 0 n)) []:=by
  unfold iArgs
  rw [x_cons e1 (rfl : aNil _ _ = .ok [] [])]
  show R.lift ((rng1 [.int (n : Int)]).map Wk.ds) [] = _
  unfold rng1
  have : decide ((n : Int).natAbs ≤ 1000000) = true:=decide_eq_true (by omega)
  simp only [this]
  rfl
 have e3 : lComp (iArgs rng1 (aCons (fCall max2 (aCons (fC (.int 1)) (aCons (fCall min2 (aCons (fC (.int m)) (aCons (fLenS (fVar 0)) aNil))) aNil))) aNil)) [1] (cName 1) fYes (fApp 1 Fh (aCons (fApp 2 Fs (aCons (fVar 0) (aCons (fVar 1) aNil))) aNil)) [some (.scr ns), none] [] = .ok (List.replicate n (.bool true)) []:=by
  unfold lComp
  rw [e2]
  show (match ((Wk.ds (rng 0 n)).ls []).bind small with | some ds => _ | none => _) = _
  have : ((Wk.ds (rng 0 n)).ls []).bind small = some (rng 0 n):=by
   show small (rng 0 n) = _
   unfold small
   rw [rng_len, decide_eq_true (Nat.le_trans hn2 (by decide))]
   rfl
  rw [this]
  simp only [rng_len]
  refine lcF_true (n:=n) (fun i hi => ?_) n 0 (Nat.zero_add n)
  obtain ⟨S, hS⟩:=hh i (by omega)
  have e4 : fApp 2 Fs (aCons (fVar 0) (aCons (fVar 1) aNil)) [some (.scr ns), some (.dat (.int (i : Int)))] [] = .ok (.loc 0 0) [c i]:=by
   show Fs [.scr ns, .dat (.int (i : Int))] [] = _
   exact hs i
  have e5 : fApp 1 Fh (aCons (fApp 2 Fs (aCons (fVar 0) (aCons (fVar 1) aNil))) aNil) [some (.scr ns), some (.dat (.int (i : Int)))] [] = .ok (.dat (.bool true)) S:=by
   unfold fApp at e4 ⊢
   rw [x_cons e4 (rfl : aNil _ _ = .ok [] _)]
   exact hS
  refine ⟨S, ?_⟩
  show R.bind (R.noX (fApp 1 Fh _ [some (.scr ns), some (.dat (.int (i : Int)))] [])) _ = _
  rw [e5]
  rfl
 have e6 : bLaw m Fs Fh [some (.scr ns), none] [] = .rt (.dat (.bool true)) []:=by
  unfold bLaw
  refine x_ret (x_call (ws:=[.dat (.list (List.replicate n (.bool true)))]) (S1:=[]) (x_cons (S1:=[]) ?_ rfl) ?_)
  ·unfold fFrz
   rw [e3]
   rfl
  ·show (boolsOf (List.replicate n (D.bool true))).map _ = _
   rw [boolsOf_repl]
   simp
 have e : runF 2 false (bLaw m Fs Fh) [.scr ns] [] = (bLaw m Fs Fh [some (.scr ns), none] []).fn false 0:=rfl
 rw [e, e6]
 rfl
end Vz
namespace Vz
open PySem PySem.Spec PyProof.Rows L2
section
variable {T : Tb} {X : Cx} {Wx : WX} {a b e : Expr} {fa fb fe : FE} {pos p : Pos} {es : List Expr} {ga : FA}
def revD : D → Option D
 | .list xs => some (.list xs.reverse)
 | .tup _ xs => some (.tup .nod xs.reverse)
 | _ => none
def fRev (f : FE) : FE:=fun ρ S => (f ρ S).bind fun w S1 => R.lift (((rd S1 w).bind revD).map W.dat) S1
def lRange (f : FA) : FL:=fun ρ S => (f ρ S).bind fun ws S1 => R.lift ((dats ws).bind rng1) S1
abbrev Row:=Int × List Int
def Row.l (b : Row) : List Int:=b.1 :: b.2
def encR (b : Row) : PyData:=.tuple (b.l.map PyData.int)
def Row.d (b : Row) : D:=.tup .any (b.l.map D.int)
def ltL : List Int → List Int → Bool
 | _, [] => false
 | [], _ :: _ => true
 | x :: xs, y :: ys => match decide (x < y) with
  | true => true
  | false => match decide (x = y) with
   | true => ltL xs ys
   | false => false
theorem ltL_eq : ∀ xs ys : List Int, ltL xs ys = decide (xs < ys)
 | [], [] => by simp [ltL]
 | _ :: _, [] => by simp [ltL]
 | [], _ :: _ => by simp [ltL]
 | x :: xs, y :: ys => by
  unfold ltL
  rw [ltL_eq xs ys]
  by_cases h1 : x < y
  ·rw [decide_eq_true h1]
   exact (decide_eq_true (List.cons_lt_cons_iff.mpr (.inl h1))).symm
  ·rw [decide_eq_false h1]
   by_cases h2 : x = y
   ·rw [decide_eq_true h2]
    subst h2
    by_cases h3 : xs < ys
    ·rw [decide_eq_true h3]
     exact (decide_eq_true (List.cons_lt_cons_iff.mpr (.inr ⟨rfl, h3⟩))).symm
    ·rw [decide_eq_false h3]
     refine (decide_eq_false fun z => ?_).symm
     rcases List.cons_lt_cons_iff.mp z with z | ⟨_, z⟩
     ·exact h1 z
     ·exact h3 z
   ·rw [decide_eq_false h2]
    refine (decide_eq_false fun z => ?_).symm
    rcases List.cons_lt_cons_iff.mp z with z | ⟨z, _⟩
    ·exact h1 z
    ·exact h2 z
def leR (a b : Row) : Bool:=!ltL b.l a.l
theorem dataLe_R : PySem.W.dataLe false encR = leR:=by
 funext a b
 rw [PySem.W.dataLe_eq]
 show (!PySem.W.dataLt (encR b) (encR a)) = _
 unfold encR leR
 rw [PySem.W.dataLt_tuple, ltL_eq]
 exact congrArg _ (PySem.W.dataLt_ints b.l a.l)
theorem leR_iff {a b : Row} : leR a b = true ↔ a.l ≤ b.l:=by
 unfold leR
 rw [ltL_eq]
 simp
def insR (x : Row) : List Row → List Row
 | [] => [x]
 | y :: ys => match leR x y with
  | true => x :: y :: ys
  | false => y :: insR x ys
def sortR : List Row → List Row
 | [] => []
 | x :: xs => insR x (sortR xs)
theorem insR_perm (x : Row) : ∀ ys : List Row, (insR x ys).Perm (x :: ys)
 | [] => .refl _
 | y :: ys => by
  unfold insR
  cases leR x y with
  | true => exact .refl _
  | false => exact ((insR_perm x ys).cons y).trans (.swap x y ys)
theorem sortR_perm : ∀ xs : List Row, (sortR xs).Perm xs
 | [] => .refl _
 | x :: xs => (insR_perm x _).trans ((sortR_perm xs).cons x)
theorem leR_total (a b : Row) : leR a b = true ∨ leR b a = true:=by
 rw [leR_iff, leR_iff]
 exact List.le_total _ _
theorem leR_trans {a b c : Row} (h1 : leR a b = true) (h2 : leR b c = true) : leR a c = true:=by
 rw [leR_iff] at *
 exact List.le_trans h1 h2
theorem leR_anti {a b : Row} (h1 : leR a b = true) (h2 : leR b a = true) : a = b:=by
 rw [leR_iff] at *
 have:=List.le_antisymm h1 h2
 unfold Row.l at this
 injection this with h3 h4
 exact Prod.ext h3 h4
theorem insR_pw (x : Row) : ∀ ys : List Row, ys.Pairwise (fun a b => leR a b = true) → (insR x ys).Pairwise (fun a b => leR a b = true)
 | [], _ => by simp [insR]
 | y :: ys, h => by
  obtain ⟨h1, h2⟩:=List.pairwise_cons.mp h
  unfold insR
  cases q : leR x y with
  | true =>
   refine List.pairwise_cons.mpr ⟨fun z hz => ?_, h⟩
   rcases List.mem_cons.mp hz with rfl | hz
   ·exact q
   ·exact leR_trans q (h1 z hz)
  | false =>
   refine List.pairwise_cons.mpr ⟨fun z hz => ?_, insR_pw x ys h2⟩
   rcases List.mem_cons.mp ((insR_perm x ys).mem_iff.mp hz) with rfl | hz
   ·rcases leR_total z y with h | h
    ·rw [q] at h; cases h
    ·exact h
   ·exact h1 z hz
theorem sortR_pw : ∀ xs : List Row, (sortR xs).Pairwise (fun a b => leR a b = true)
 | [] => .nil
 | x :: xs => insR_pw x _ (sortR_pw xs)
theorem mergeR (bs : List Row) : bs.mergeSort (PySem.W.dataLe false encR) = sortR bs:=by
 rw [dataLe_R]
 refine List.Perm.eq_of_pairwise (le:=fun a b => leR a b = true) (fun a b _ _ h1 h2 => leR_anti h1 h2) ?_ (sortR_pw bs) ((List.mergeSort_perm bs leR).trans (sortR_perm bs).symm)
 exact List.pairwise_mergeSort (le:=leR) (fun a b c h1 h2 => leR_trans h1 h2) (fun a b => by rcases leR_total a b with h | h <;> simp [h]) bs
def rowsOf : List D → Option (List Row)
 | [] => some []
 | .tup _ (.int x :: r) :: ds => (intsOf r).bind fun ns => (rowsOf ds).bind fun bs => some ((x, ns) :: bs)
 | _ => none
theorem ints_of {ds : List D} {ns : List Int} (h : intsOf ds = some ns) : ds = ns.map D.int:=by
 induction ds generalizing ns with
 | nil => cases h; rfl
 | cons d ds ih =>
  cases d with
  | int i =>
   simp only [intsOf] at h
   obtain ⟨ms, h1, h2⟩:=ob h
   cases h2
   rw [ih h1]
   rfl
  | _ => cases h
def RowAt (K : PySem.W.Frag) (F : Hp) (u : Value) (b : Row) : Prop:=∃ y, RelV y u ∧ Rep K F b.d y
theorem rows_each {K : PySem.W.Frag} {F : Hp} : ∀ {ds : List D} {vs : List V} {us : List Value} {bs : List Row}, Reps K F ds vs → Vals vs us → rowsOf ds = some bs → PySem.W.EachIs (RowAt K F) us bs
 | _, _, _, _, .nil, .nil, e => by
  cases e
  exact .nil
 | d :: ds, _, _, bs, .cons r rr, .cons q qq, e => by
  unfold rowsOf at e
  split at e
  ·rename_i heq
   cases heq
  ·rename_i f x rest ds' heq
   cases heq
   obtain ⟨ns, h1, e⟩:=ob e
   obtain ⟨cs, h2, e⟩:=ob e
   cases e
   refine .cons ⟨_, q, ?_⟩ (rows_each rr qq h2)
   cases r with
   | tup f1 r1 =>
    rw [ints_of h1] at r1
    exact .tup (f:=.any) f1.sq r1
  ·cases e
theorem rows_py : ∀ {ds : List D} {bs : List Row}, rowsOf ds = some bs → pyAll ds = bs.map encR
 | [], _, e => by
  cases e
  rfl
 | d :: ds, bs, e => by
  unfold rowsOf at e
  split at e
  ·rename_i heq
   cases heq
  ·rename_i f x rest ds' heq
   cases heq
   obtain ⟨ns, h1, e⟩:=ob e
   obtain ⟨cs, h2, e⟩:=ob e
   cases e
   show PyData.tuple (.int x :: pyAll rest) :: pyAll ds = _
   rw [rows_py h2, ints_of h1]
   have : ∀ l : List Int, pyAll (l.map D.int) = l.map PyData.int:=fun l => by
    induction l with
    | nil => rfl
    | cons z zs ih =>
     show _ :: pyAll (zs.map D.int) = _
     rw [ih]
     rfl
   rw [this]
   rfl
  ·cases e
def rSortR (K : PySem.W.Frag) : List V → Hp → VK → Prop:=fun vs H Q => ∃ (a : Addr) (ys : List V) (F : Hp) (ds : List D) (bs : List Row), vs = [V.ref a] ∧ SqL K H a ys ∧ Ex F H ∧ Reps K F ds ys ∧ rowsOf ds = some bs ∧ ∀ (us : List V) p, H p = none → Reps K F ((sortR bs).map Row.d) us → Q (.ref p) (upd H p (.lst us))
theorem each_reps {K : PySem.W.Frag} {F : Hp} : ∀ {us : List Value} {bs : List Row}, PySem.W.EachIs (RowAt K F) us bs → ∃ vs, Vals vs us ∧ Reps K F (bs.map Row.d) vs
 | _, _, .nil => ⟨[], .nil, .nil⟩
 | _, _, .cons ⟨y, r1, r2⟩ e => by
  obtain ⟨vs, h1, h2⟩:=each_reps e
  exact ⟨y :: vs, .cons r1 h1, .cons r2 h2⟩
theorem encR_plain : ∀ bs : List Row, PyData.plainAll (bs.map encR) = true
 | [] => rfl
 | b :: bs => by
  show ((encR b).plain && PyData.plainAll (bs.map encR)) = true
  rw [encR_plain bs, Bool.and_true]
  show PyData.plainAll (b.l.map PyData.int) = true
  induction b.l with
  | nil => rfl
  | cons z zs ih =>
   show (true && PyData.plainAll (zs.map PyData.int)) = true
   rw [ih]
   rfl
theorem encR_depth (b : Row) : (encR b).depth ≤ 1:=by
 unfold encR
 show PyData.depthAll (b.l.map PyData.int) + 1 ≤ 1
 rw [PySem.W.depth_ints]
 exact Nat.le_refl _
theorem cr_sortR (hu : X.A.units + 65 < cLine) : CallR X (.builtin "sorted") (rSortR X.K):=by
 intro pins s σ H vs us Q I r h
 obtain ⟨a, ys, F, ds, bs, rfl, hs, hF, hr, hb, q⟩:=h
 obtain ⟨its, rv, hl, hz⟩:=I.list hs
 rw [Vals.ref1 r]
 have e1:=rows_each hr rv hb
 have e2:=rows_py hb
 have dp:=hr.dp hF (by rw [e2]; exact encR_plain _)
 rw [e2] at dp
 obtain ⟨as, rd1⟩:=Dp.readsAll I _ _ _ dp rv
 have er:=PySem.W.readsAll_each encR rd1
 have hal : PySem.W.AllAlike (bs.map encR):=PySem.W.AllAlike.of fun b b' => PySem.W.alike_ints b.l b'.l
 have hk : PySem.W.Sortable (bs.map encR):=PySem.W.Sortable.tuples fun b => ⟨.int b.1, b.2.map PyData.int, rfl⟩
 have hlen : its.length = bs.length:=e1.length
 refine PySem.W.sorted_data (enc:=encR) hl.isList e1 er hal hk (by rw [← hlen, ← rv.length]; exact hz) (fun b _ => by have:=encR_depth b; omega) fun out ho hout => ?_
 rw [mergeR] at hout
 obtain ⟨ws, h1, h2⟩:=each_reps hout
 obtain ⟨ep, he'⟩:=PyProof.Rows.sortedAll_at s.heap its out.toArray
 have hlen2 : ws.length ≤ sizeLine:=by
  rw [h1.length, ho, ← hlen, ← rv.length]
  exact hz
 exact ⟨.ref _, upd H (s.heap.objs.size + 1) (.lst ws), I.laid (t':=s.toks) (fun _ _ => PyProof.Rows.sortedAll_old) (Nat.le_succ _) ⟨hlen2, out, ep, h1, he'⟩, rfl, q ws _ (I.hok.fresh (Nat.le_succ _)) h2⟩
def sortedRD : List D → Option (List D):=one (onL fun ds => (rowsOf ds).map fun bs => (sortR bs).map Row.d)
theorem l_sortR {K : PySem.W.Frag} (G F : Hp) (A : List (List Addr)) (S : Sto) (H : Hp) (vs : List V) (ds : List D) (z : List D) (Q : VK) (hw : Wd (T.g G) K F A S H) (rs : RepUs K F H ds vs) (h : sortedRD ds = some z)
  (q : ∀ H' p us, Wd (T.g G) K F A S H' → H' p = some (.lst us) → F p = none → G p = none → p ∉ A.flatten → Reps K F z us → Q (.ref p) H') : rSortR K vs H Q:=by
 obtain ⟨d, rfl, h⟩:=one_some h
 cases rs with
 | cons r rr =>
 cases rr
 obtain ⟨p, xs, us, rfl, h1, h2, h3⟩:=onL_rep r h
 obtain ⟨bs, h4, rfl⟩:=om h3
 exact ⟨p, us, F, xs, bs, rfl, h1, hw.sub, h2, h4, fun ws l hl hr => q _ l ws (hw.junk hl _) upd_same (hw.freshF hl) (Evl.fresh_back hw.gh hl) (fun m => by have:=hw.there l m; rw [hl] at this; cases this) hr⟩
theorem jl_sortedR (hu : X.A.units + 65 < cLine) (hm : X.mg "sorted" = none) (ha : JA T X Wx [e] ga) (hg : Gl X "sorted":=by rfl) (he : starEach [e] X.env = (false, eval e X.env) :: starEach [] X.env:=by rfl) : JL T X Wx (.Call (.Name "sorted" p) [e] [] pos) (lCall sortedRD ga):=by
 obtain ⟨t1, h1, s1⟩:=ha
 exact ⟨_, pe_callB (cr_sortR hu) hg hm boot_sorted h1 (by decide) (by decide) he rfl, semL_call s1 l_sortR⟩
end
end Vz
namespace Vz
open PySem PySem.Spec PyProof.Rows L2
section
variable {f : FE} {g : FG} {ρ ρ' : Rho} {S S1 S2 : Sto} {w : W}
theorem x_asg (h1 : f ρ S = .ok w S1) (h2 : g w ρ S1 = some (ρ', S2)) : sAsg f g ρ S = .nx ρ' S2:=by
 unfold sAsg
 rw [h1]
 show (match g w ρ S1 with | some (ρ', S2) => Out.nx ρ' S2 | none => .bad) = _
 rw [h2]
end
def bDraw (self : List W → Sto → R W) : FS:=(sSeq (sIf (fB (fBin gtI (fBin ixD (fVar 0) (fC (.int 0))) (fC (.int 0)))) (sSeq (sSet 3 (fBin modI (fBin ixD (fVar 0) (fC (.int 0))) (fVar 1))) (sSeq (sAsg (fBin divI (fBin ixD (fVar 0) (fC (.int 0))) (fVar 1)) (oSub (fVar 0) (fC (.int 0)))) (sRet (fVar 3)))) sNil)
 (sSeq (sIf (fB (fBin gtI (fVar 1) (fBin powI (fC (.int 10)) (fC (.int 7))))) (sRet (fBin modI (fBin addD (fApp 2 self (aCons (fVar 0) (aCons (fBin powI (fC (.int 10)) (fC (.int 7))) aNil))) (fBin mulD (fBin powI (fC (.int 10)) (fC (.int 7))) (fApp 2 self (aCons (fVar 0) (aCons (fBin addD (fBin divI (fVar 1) (fBin powI (fC (.int 10)) (fC (.int 7)))) (fC (.int 1))) aNil))))) (fVar 1))) sNil)
 (sSeq (sAsg (fBin addD (fBin ixD (fVar 0) (fC (.int 2))) (fC (.int 1))) (oSub (fVar 0) (fC (.int 2))))
 (sSeq (sSet 2 (fBin modI (fBin powI (fBin addD (fBin ixD (fVar 0) (fC (.int 1))) (fBin mulD (fC (.int 60013)) (fBin ixD (fVar 0) (fC (.int 2))))) (fC (.int 3))) (fC (.int 2147483579))))
  (sRet (fBin modI (fBin divI (fBin modI (fBin addD (fBin mulD (fVar 2) (fBin addD (fBin modI (fVar 2) (fC (.int 40009))) (fC (.int 13)))) (fBin mulD (fBin ixD (fVar 0) (fC (.int 2))) (fC (.int 7459)))) (fC (.int 2147483647))) (fC (.int 32))) (fVar 1)))))))
def srcC (a b c : Int) : C:=.lst [.int a, .int b, .int c]
def onceI (b c : Int) : Int:=(b + 60013 * c) ^ 3 % 2147483579
def mixI (b c n : Int) : Int:=(onceI b c * (onceI b c % 40009 + 13) + c * 7459) % 2147483647 / 32 % n
theorem gI_ok {C : Int → Int → Bool} {f : Int → Int → D} {i j : Int} (h : C i j = true) : gI C f (.int i) (.int j) = some (f i j):=by
 show ifO (C i j) (some (f i j)) = _
 rw [h]
 rfl
theorem mul_guard {i j : Int} (h : (-(2 ^ 64) < i ∧ i < 2 ^ 64) ∨ (-(2 ^ 64) < j ∧ j < 2 ^ 64)) : mulD (.int i) (.int j) = some (.int (i * j)):=by
 have : mulI (.int i) (.int j) = some (.int (i * j)):=by
  refine gI_ok ?_
  rcases h with ⟨h1, h2⟩ | ⟨h1, h2⟩
  ·rw [decide_eq_true (show i.natAbs < 2 ^ 64 by omega)]
   rfl
  ·rw [decide_eq_true (show j.natAbs < 2 ^ 64 by omega), Bool.or_true]
 unfold mulD orD
 rw [this]
theorem mod_guard {i j : Int} (h : 0 < j) : modI (.int i) (.int j) = some (.int (i % j)):=gI_ok (decide_eq_true h)
theorem div_guard {i j : Int} (h : 0 < j) (h2 : j ≤ 10 ^ 7) : divI (.int i) (.int j) = some (.int (i / j)):=by
 have : j.natAbs.log2 < 9000:=by
  have h3 : j.natAbs ≤ 10 ^ 7:=by omega
  have h4 : j.natAbs ≠ 0:=by omega
  have h5 : j.natAbs.log2 < 24:=(Nat.log2_lt h4).mpr (Nat.lt_of_le_of_lt h3 (by decide))
  omega
 refine gI_ok ?_
 rw [decide_eq_true h, decide_eq_true this]
 rfl
theorem pow_guard {i : Int} (h : i.natAbs < 2 ^ 64) : powI (.int i) (.int 3) = some (.int (i ^ 3)):=by
 refine gI_ok ?_
 rw [decide_eq_true h]
 rfl
theorem draw_old {self : List W → Sto → R W} {a b c n : Int} {rest : Sto} (ha : 0 < a) (hn : 0 < n) (hn2 : n ≤ 10 ^ 7) :
  runF 4 false (bDraw self) [.loc 0 0, .dat (.int n)] (srcC a b c :: rest) = .ok (.dat (.int (a % n))) (srcC (a / n) b c :: rest):=by
 have e : bDraw self [some (.loc 0 0), some (.dat (.int n)), none, none] (srcC a b c :: rest) = .rt (.dat (.int (a % n))) (srcC (a / n) b c :: rest):=by
  have t1 : fB (fBin gtI (fBin ixD (fVar 0) (fC (.int 0))) (fC (.int 0))) [some (.loc 0 0), some (.dat (.int n)), none, none] (srcC a b c :: rest) = .ok true (srcC a b c :: rest):=by
   show R.bind (R.ok (W.dat (.bool (decide (0 < a)))) _) _ = _
   rw [decide_eq_true ha]
   rfl
  have h0 : ∀ ρ : Rho, ρ[0]? = some (some (.loc 0 0)) → fBin ixD (fVar 0) (fC (.int 0)) ρ (srcC a b c :: rest) = .ok (.dat (.int a)) (srcC a b c :: rest):=fun ρ h => by
   refine x_bin (wa:=.loc 0 0) (S1:=srcC a b c :: rest) ?_ rfl rfl
   unfold fVar
   rw [h]
  have hx : sIf (fB (fBin gtI (fBin ixD (fVar 0) (fC (.int 0))) (fC (.int 0)))) (sSeq (sSet 3 (fBin modI (fBin ixD (fVar 0) (fC (.int 0))) (fVar 1))) (sSeq (sAsg (fBin divI (fBin ixD (fVar 0) (fC (.int 0))) (fVar 1)) (oSub (fVar 0) (fC (.int 0)))) (sRet (fVar 3)))) sNil [some (.loc 0 0), some (.dat (.int n)), none, none] (srcC a b c :: rest) = .rt (.dat (.int (a % n))) (srcC (a / n) b c :: rest):=by
   refine x_ift t1 (x_seq (x_set (x_bin (h0 _ rfl) rfl (mod_guard hn))) ?_)
   exact x_seq (x_asg (x_bin (h0 _ rfl) rfl (div_guard hn hn2)) rfl) rfl
  unfold bDraw
  unfold sSeq at hx ⊢
  rw [hx]
  rfl
 have r : runF 4 false (bDraw self) [.loc 0 0, .dat (.int n)] (srcC a b c :: rest) = (bDraw self [some (.loc 0 0), some (.dat (.int n)), none, none] (srcC a b c :: rest)).fn false (rest.length + 1):=rfl
 rw [r, e]
 show R.ok _ ((srcC (a / n) b c :: rest).take (rest.length + 1)) = _
 rw [List.take_succ_cons, List.take_length]
theorem x_bin' {fa fb : FE} {ρ : Rho} {S : Sto} {x y d : D} {g : D → D → Option D} (h1 : fa ρ S = .ok (.dat x) S) (h2 : fb ρ S = .ok (.dat y) S) (h3 : g x y = some d) : fBin g fa fb ρ S = .ok (.dat d) S:=x_bin h1 h2 h3
theorem draw_new {self : List W → Sto → R W} {a b c n : Int} {rest : Sto} (ha : ¬ 0 < a) (hb : 0 ≤ b) (hb2 : b < 2 ^ 31) (hc : 0 ≤ c) (hc2 : c < 2 ^ 40) (hn : 0 < n) (hn2 : n ≤ 10 ^ 7) :
  runF 4 false (bDraw self) [.loc 0 0, .dat (.int n)] (srcC a b c :: rest) = .ok (.dat (.int (mixI b (c + 1) n))) (srcC a b (c + 1) :: rest):=by
 have e : bDraw self [some (.loc 0 0), some (.dat (.int n)), none, none] (srcC a b c :: rest) = .rt (.dat (.int (mixI b (c + 1) n))) (srcC a b (c + 1) :: rest):=by
  have t1 : fB (fBin gtI (fBin ixD (fVar 0) (fC (.int 0))) (fC (.int 0))) [some (.loc 0 0), some (.dat (.int n)), none, none] (srcC a b c :: rest) = .ok false (srcC a b c :: rest):=by
   show R.bind (R.ok (W.dat (.bool (decide (0 < a)))) _) _ = _
   rw [decide_eq_false ha]
   rfl
  have t2 : fB (fBin gtI (fVar 1) (fBin powI (fC (.int 10)) (fC (.int 7)))) [some (.loc 0 0), some (.dat (.int n)), none, none] (srcC a b c :: rest) = .ok false (srcC a b c :: rest):=by
   show R.bind (R.ok (W.dat (.bool (decide ((10 : Int) ^ 7 < n)))) _) _ = _
   rw [decide_eq_false (by omega)]
   rfl
  have ho : 0 ≤ onceI b (c + 1) ∧ onceI b (c + 1) < 2147483579:=⟨Int.emod_nonneg _ (by decide), Int.emod_lt_of_pos _ (by decide)⟩
  refine x_seq (x_iff t1 rfl) (x_seq (x_iff t2 rfl) (x_seq (x_asg (S1:=srcC a b c :: rest) (w:=.dat (.int (c + 1))) rfl rfl) (x_seq (x_set (w:=.dat (.int (onceI b (c + 1)))) (S1:=srcC a b (c + 1) :: rest) ?_) ?_)))
  ·refine x_bin' (x:=.int ((b + 60013 * (c + 1)) ^ 3)) (x_bin' (x:=.int (b + 60013 * (c + 1))) (y:=.int 3) (x_bin' (x:=.int b) (y:=.int (60013 * (c + 1))) rfl (x_bin' (x:=.int 60013) (y:=.int (c + 1)) rfl rfl rfl) rfl) rfl (pow_guard (by omega))) rfl rfl
  ·refine x_ret (x_bin' (y:=.int n) (x_bin' (y:=.int 32) (x_bin' (x:=.int (onceI b (c + 1) * (onceI b (c + 1) % 40009 + 13) + (c + 1) * 7459)) (y:=.int 2147483647) (x_bin' (x:=.int (onceI b (c + 1) * (onceI b (c + 1) % 40009 + 13))) (y:=.int ((c + 1) * 7459)) (x_bin' (x:=.int (onceI b (c + 1))) (y:=.int (onceI b (c + 1) % 40009 + 13)) rfl rfl (mul_guard (.inl (by omega)))) (x_bin' (x:=.int (c + 1)) (y:=.int 7459) rfl rfl (mul_guard (.inr (by omega)))) rfl) rfl rfl) rfl rfl) rfl (mod_guard hn))
 have r : runF 4 false (bDraw self) [.loc 0 0, .dat (.int n)] (srcC a b c :: rest) = (bDraw self [some (.loc 0 0), some (.dat (.int n)), none, none] (srcC a b c :: rest)).fn false (rest.length + 1):=rfl
 rw [r, e]
 show R.ok _ ((srcC a b (c + 1) :: rest).take (rest.length + 1)) = _
 rw [List.take_succ_cons, List.take_length]
def SrcOk (m : Nat) : C → Prop:=fun x => ∃ a b c : Int, x = srcC a b c ∧ 0 ≤ b ∧ b < 2 ^ 31 ∧ 0 ≤ c ∧ c + m < 2 ^ 40
end Vz
namespace Vz
open PySem PySem.Spec PyProof.Rows L2
section
variable {draw : List W → Sto → R W} {rest : Sto} {d : D}
end
end Vz
namespace Vz
open PySem PySem.Spec PyProof.Rows L2
def lcL (n : Nat) (bd : D → Sto → R (Option D)) : List D → Sto → R (List D)
 | [], S => .ok [] S
 | d :: ds, S => (bd d S).bind fun o S1 => (lcL n bd ds (S1.take n)).bind fun r S2 => .ok (o.toList ++ r) S2
theorem lcF_list {n : Nat} {bd : D → Sto → R (Option D)} {xs : List D} : ∀ (m i : Nat) (S : Sto), i + m = xs.length → lcF n bd (.ds xs) m i S = lcL n bd (xs.drop i) S
 | 0, i, S, h => by
  have hi : i = xs.length:=by omega
  subst hi
  unfold lcF
  have : xs[xs.length]? = none:=List.getElem?_eq_none (Nat.le_refl _)
  simp only [Wk.ls, this]
  rw [List.drop_length]
  rfl
 | m + 1, i, S, h => by
  have hi : i < xs.length:=by omega
  unfold lcF
  simp only [Wk.ls, List.getElem?_eq_getElem hi]
  rw [List.drop_eq_getElem_cons hi]
  unfold lcL
  cases bd xs[i] S with
  | ok o S1 =>
   show R.bind (lcF n bd (.ds xs) m (i + 1) (S1.take n)) _ = _
   rw [lcF_list m (i + 1) _ (by omega)]
   rfl
  | exc _ _ => rfl
  | bad => rfl
section
variable {xs : List Int} {t : D} {S : Sto}
theorem ints_intsOf : ∀ xs : List Int, intsOf (xs.map D.int) = some xs
 | [] => rfl
 | x :: xs => by
  show (intsOf (xs.map D.int)).bind _ = _
  rw [ints_intsOf xs]
  rfl
end
end Vz
namespace Vz
open PySem PySem.Spec PyProof.Rows L2
section
variable {S T : Sto} {k : Nat} {c : C}
theorem at_app0 : (S ++ T)[S.length]? = T[0]?:=by
 rw [List.getElem?_append_right (Nat.le_refl _), Nat.sub_self]
theorem at_appk : (S ++ T)[S.length + k]? = T[k]?:=by
 rw [List.getElem?_append_right (Nat.le_add_right _ _), Nat.add_sub_cancel_left]
theorem set_app0 : (S ++ T).set S.length c = S ++ T.set 0 c:=by
 rw [List.set_append_right _ _ (Nat.le_refl _), Nat.sub_self]
theorem set_appk : (S ++ T).set (S.length + k) c = S ++ T.set k c:=by
 rw [List.set_append_right _ _ (Nat.le_add_right _ _), Nat.add_sub_cancel_left]
theorem take_app0 : (S ++ T).take S.length = S:=List.take_left
theorem take_appk : (S ++ T).take (S.length + k) = S ++ T.take k:=by
 rw [List.take_append, List.take_of_length_le (Nat.le_add_right _ _), Nat.add_sub_cancel_left]
theorem at_one : S[S.length]? = none:=List.getElem?_eq_none (Nat.le_refl _)
theorem set_one : S.set S.length c = S:=List.set_eq_of_length_le (Nat.le_refl _)
theorem take_one : S.take S.length = S:=List.take_length
end
section
variable {n : Nat} {bd : D → Rho → Sto → Out} {α : Type} {enc : α → D}
end
theorem lcL_fm {n : Nat} {bd : D → Sto → R (Option D)} {α : Type} {enc : α → D} {g : α → Option D} {S : Sto} (hn : S.length = n) : ∀ {xs : List α}, (∀ a, a ∈ xs → ∃ T, bd (enc a) S = .ok (g a) (S ++ T)) → lcL n bd (xs.map enc) S = .ok (xs.filterMap g) S
 | [], _ => rfl
 | a :: xs, h => by
  obtain ⟨T, e⟩:=h a (List.mem_cons_self ..)
  show R.bind (bd (enc a) S) _ = _
  rw [e]
  show R.bind (lcL n bd (xs.map enc) ((S ++ T).take n)) _ = _
  rw [← hn, List.take_left]
  have:=lcL_fm (g:=g) (enc:=enc) rfl (xs:=xs) (fun b hb => h b (List.mem_cons_of_mem _ hb))
  rw [this]
  show R.ok _ _ = _
  rw [List.filterMap_cons]
  cases g a <;> rfl
theorem x_comp {fi : FI} {vs : List Nat} {gg : FC} {t : FT} {f : FE} {ρ : Rho} {S S1 : Sto} {α : Type} {enc : α → D} {g : α → Option D} {xs : List α} (h : fi ρ S = .ok (.ds (xs.map enc)) S1) (hl : xs.length ≤ lim)
  (hb : ∀ a, a ∈ xs → ∃ T, lcB gg t f (wipeR ρ vs) (enc a) S1 = .ok (g a) (S1 ++ T)) : lComp fi vs gg t f ρ S = .ok (xs.filterMap g) S1:=by
 unfold lComp
 rw [h]
 show (match (some (xs.map enc)).bind small with | some ds => lcF S1.length (lcB gg t f (wipeR ρ vs)) (.ds (xs.map enc)) ds.length 0 S1 | none => .bad) = _
 have : small (xs.map enc) = some (xs.map enc):=by
  unfold small
  rw [List.length_map, decide_eq_true hl]
  rfl
 rw [Option.bind_some, this]
 show lcF S1.length (lcB gg t f (wipeR ρ vs)) (.ds (xs.map enc)) (xs.map enc).length 0 S1 = _
 rw [lcF_list _ 0 S1 (Nat.zero_add _), List.drop_zero]
 exact lcL_fm rfl hb
theorem x_compM {fi : FI} {vs : List Nat} {gg : FC} {f : FE} {ρ : Rho} {S S1 : Sto} {α : Type} {enc : α → D} {g : α → D} {xs : List α} (h : fi ρ S = .ok (.ds (xs.map enc)) S1) (hl : xs.length ≤ lim)
  (hb : ∀ a, a ∈ xs → ∃ T, lcB gg fYes f (wipeR ρ vs) (enc a) S1 = .ok (some (g a)) (S1 ++ T)) : lComp fi vs gg fYes f ρ S = .ok (xs.map g) S1:=by
 rw [x_comp (g:=fun a => some (g a)) h hl hb]
 congr 1
 induction xs with
 | nil => rfl
 | cons a xs ih => rw [List.filterMap_cons]; simp
theorem run_dat {m : Nat} {c : Bool} {fb : FS} {ws : List W} {S T : Sto} {d : D} (h : fb (ws.map some ++ List.replicate (m - ws.length) none) S = .rt (.dat d) (S ++ T)) : runF m c fb ws S = .ok (.dat d) S:=by
 unfold runF
 rw [h]
 show retV c S.length (.dat d) (S ++ T) = _
 show R.ok (W.dat d) ((S ++ T).take S.length) = _
 rw [List.take_left]
theorem addD_ii (i j : Int) : addD (.int i) (.int j) = some (.int (i + j)):=rfl
theorem subI_ii (i j : Int) : subI (.int i) (.int j) = some (.int (i - j)):=rfl
theorem ltI_ii (i j : Int) : ltI (.int i) (.int j) = some (.bool (decide (i < j))):=rfl
theorem leI_ii (i j : Int) : leI (.int i) (.int j) = some (.bool (decide (i ≤ j))):=rfl
theorem gtI_ii (i j : Int) : gtI (.int i) (.int j) = some (.bool (decide (j < i))):=rfl
theorem geI_ii (i j : Int) : geI (.int i) (.int j) = some (.bool (decide (j ≤ i))):=rfl
theorem eqD_ii (i j : Int) : eqD (.int i) (.int j) = some (.bool (decide (i = j))):=by
 unfold eqD
 rw [show shp (.int i) = true from rfl, show shp (.int j) = true from rfl]
 show some (D.bool (i == j)) = _
 congr 2
theorem isN_non : isN .none .none = some (.bool true):=rfl
theorem isN_int (i : Int) : isN (.int i) .none = some (.bool false):=rfl
theorem isN_str (i : Str) : isN (.str i) .none = some (.bool false):=rfl
end Vz
namespace Vz
open PySem PySem.Spec PyProof.Rows L2
def b_choose : FS:=(sSeq (sSet 2 (fC (.int 1))) (sSeq (sFor (iArgs rng1 (aCons (fVar 1) aNil)) (oName 3) (sSet 2 (fBin divI (fBin mulD (fVar 2) (fBin subI (fVar 0) (fVar 3))) (fBin addD (fVar 3) (fC (.int 1)))))) (sRet (fVar 2))))
def F_choose : List W → Sto → R W:=runF 4 false b_choose
def b_marks_of : FS:=(sSeq (sSet 2 (fCell (lDisp aNil))) (sSeq (sFor (iSeq (fVar 1)) (oName 3) (sIf (fB (fBin isN (fVar 3) (fC .none))) (sExpr (fMeth mAppend (fVar 2) (aCons (fNeg (fC (.int 1))) aNil))) (sExpr (fMeth mAppend (fVar 2) (aCons (fIf (fB (fBin eqD (fVar 3) (fC (.str "?")))) (fC .none) (fIndex (fVar 0) (aCons (fVar 3) aNil))) aNil))))) (sRet (fVar 2))))
def F_marks_of : List W → Sto → R W:=runF 4 false b_marks_of
def b_can_begin : FS:=(sRet (fOrV (fBin isN (fBin ixD (fVar 0) (fVar 2)) (fC .none)) (fBin eqD (fBin ixD (fVar 0) (fVar 2)) (fBin subI (fVar 1) (fC (.int 1))))))
def F_can_begin : List W → Sto → R W:=runF 3 false b_can_begin
def B_gap_table (c_can_begin c_choose : List W → Sto → R W) : FS:=(sSeq (sSet 1 (fCall lenD (aCons (fVar 0) aNil))) (sSeq (sSet 2 fDictT) (sSeq (sFor (iArgs rng1 (aCons (fBin addD (fVar 1) (fC (.int 1))) aNil)) (oName 3) (sAsg (fC (.int 1)) (oSub (fVar 2) (fTupK (aCons (fVar 3) (aCons (fVar 3) aNil)))))) (sSeq (sFor (iArgs rng2 (aCons (fC (.int 1)) (aCons (fBin addD (fVar 1) (fC (.int 1))) aNil))) (oName 4) (sFor (iArgs rng1 (aCons (fBin addD (fBin subI (fVar 1) (fVar 4)) (fC (.int 1))) aNil)) (oName 3) (sSeq (sSet 5 (fBin addD (fVar 3) (fVar 4))) (sAsg (fCall sumD (aCons (fFrz (lComp (iArgs rng2 (aCons (fVar 3) (aCons (fVar 5) aNil))) [6] (cName 6) (fB (fApp 3 c_can_begin (aCons (fVar 0) (aCons (fVar 3) (aCons (fVar 6) aNil))))) (fBin mulD (fBin mulD (fApp 2 c_choose (aCons (fBin subI (fVar 4) (fC (.int 1))) (aCons (fBin subI (fVar 6) (fVar 3)) aNil))) (fBin dgetD (fVar 2) (fTupK (aCons (fVar 3) (aCons (fVar 6) aNil))))) (fBin dgetD (fVar 2) (fTupK (aCons (fBin addD (fVar 6) (fC (.int 1))) (aCons (fVar 5) aNil))))))) aNil)) (oSub (fVar 2) (fTupK (aCons (fVar 3) (aCons (fVar 5) aNil)))))))) (sRet (fVar 2))))))
def b_gap_table : FS:=B_gap_table F_can_begin F_choose
def F_gap_table : List W → Sto → R W:=runF 7 false b_gap_table
def b_gaps_of : FS:=(sSeq (sSet 2 (fBin addD (fBin addD (fFrz (lDisp (aCons (fNeg (fC (.int 1))) aNil))) (fFrz (lCall sortedD (aCons (fVar 1) aNil)))) (fFrz (lDisp (aCons (fVar 0) aNil))))) (sRet (fFrz (lComp (iFr (two zipD) (aCons (fVar 2) (aCons (fSl (fVar 2) (fYesI (fC (.int 1))) fNo) aNil))) [3, 4] (cTup 2 (cnCons 3 (cnCons 4 cnNil))) (fB (fBin gtI (fVar 4) (fBin addD (fVar 3) (fC (.int 1))))) (fTupK (aCons (fBin addD (fVar 3) (fC (.int 1))) (aCons (fVar 4) aNil)))))))
def F_gaps_of : List W → Sto → R W:=runF 5 false b_gaps_of
def B_mixings (c_choose : List W → Sto → R W) : FS:=(sSeq (sAsg (fTup (aCons (fC (.int 1)) (aCons (fC (.int 0)) aNil))) (oTup 2 (onCons (oName 2) (onCons (oName 3) onNil)))) (sSeq (sFor (iSeq (fVar 0)) (oName 1) (sSeq (sAug 3 addI (fVar 1)) (sAug 2 mulI (fApp 2 c_choose (aCons (fVar 3) (aCons (fVar 1) aNil)))))) (sRet (fVar 2))))
def b_mixings : FS:=B_mixings F_choose
def F_mixings : List W → Sto → R W:=runF 4 false b_mixings
def B_count_rest (c_gaps_of c_mixings : List W → Sto → R W) : FS:=(sSeq (sSet 3 (fApp 2 c_gaps_of (aCons (fVar 1) (aCons (fVar 2) aNil)))) (sSeq (sSet 4 (fApp 1 c_mixings (aCons (fFrz (lComp (iSeq (fVar 3)) [6, 7] (cTup 2 (cnCons 6 (cnCons 7 cnNil))) fYes (fBin subI (fVar 7) (fVar 6)))) aNil))) (sSeq (sFor (iSeq (fVar 3)) (oName 5) (sAug 4 mulI (fBin dgetD (fVar 0) (fVar 5)))) (sRet (fVar 4)))))
def b_count_rest : FS:=B_count_rest F_gaps_of F_mixings
def F_count_rest : List W → Sto → R W:=runF 8 false b_count_rest
def b_nearest : FS:=(sRet (fCall maxD (aCons (fBin addD (fFrz (lComp (iSeq (fVar 0)) [2] (cName 2) (fB (fBin ltI (fVar 2) (fVar 1))) (fVar 2))) (fFrz (lDisp (aCons (fNeg (fC (.int 1))) aNil)))) aNil)))
def F_nearest : List W → Sto → R W:=runF 3 false b_nearest
def B_fits (c_nearest : List W → Sto → R W) : FS:=(sRet (fOrV (fBin isN (fBin ixD (fVar 0) (fVar 2)) (fC .none)) (fBin eqD (fBin ixD (fVar 0) (fVar 2)) (fApp 2 c_nearest (aCons (fVar 1) (aCons (fVar 2) aNil))))))
def b_fits : FS:=B_fits F_nearest
def F_fits : List W → Sto → R W:=runF 3 false b_fits
def B_next_places (c_fits c_count_rest : List W → Sto → R W) : FS:=(sSeq (sSet 3 (fCell (lDisp aNil))) (sSeq (sFor (iArgs rng1 (aCons (fCall lenD (aCons (fVar 0) aNil)) aNil)) (oName 4) (sIf (fAnd (fB (fBin (inD true) (fVar 4) (fVar 2))) (fB (fApp 3 c_fits (aCons (fVar 0) (aCons (fVar 2) (aCons (fVar 4) aNil)))))) (sSeq (sSet 5 (fApp 3 c_count_rest (aCons (fVar 1) (aCons (fCall lenD (aCons (fVar 0) aNil)) (aCons (fBin addD (fVar 2) (fFrz (lDisp (aCons (fVar 4) aNil)))) aNil))))) (sIf (fB (fBin gtI (fVar 5) (fC (.int 0)))) (sExpr (fMeth mAppend (fVar 3) (aCons (fTup (aCons (fVar 4) (aCons (fVar 5) aNil))) aNil))) sNil)) sNil)) (sRet (fVar 3))))
def b_next_places : FS:=B_next_places F_fits F_count_rest
def F_next_places : List W → Sto → R W:=runF 6 false b_next_places
def B_sorted_next (c_next_places : List W → Sto → R W) : FS:=(sRet (fFrz (lCall sortedRD (aCons (fFrz (lComp (iSeq (fApp 3 c_next_places (aCons (fVar 1) (aCons (fVar 2) (aCons (fVar 3) aNil))))) [4, 5] (cTup 2 (cnCons 4 (cnCons 5 cnNil))) fYes (fTup (aCons (fBin ixD (fVar 0) (fVar 4)) (aCons (fVar 4) (aCons (fVar 5) aNil)))))) aNil))))
def b_sorted_next : FS:=B_sorted_next F_next_places
def F_sorted_next : List W → Sto → R W:=runF 6 false b_sorted_next
def B_count_orders (c_gap_table c_marks_of : List W → Sto → R W) : FS:=(sRet (fBin dgetD (fApp 1 c_gap_table (aCons (fApp 2 c_marks_of (aCons (fVar 0) (aCons (fVar 1) aNil))) aNil)) (fTupK (aCons (fC (.int 0)) (aCons (fCall lenD (aCons (fVar 0) aNil)) aNil)))))
def b_count_orders : FS:=B_count_orders F_gap_table F_marks_of
def F_count_orders : List W → Sto → R W:=runF 2 false b_count_orders
def b__law_source : FS:=(sSeq (sSet 2 (fC (.int 0))) (sSeq (sIf (fB (fBin ltI (fVar 1) (fLenS (fVar 0)))) (sSet 2 (fIxS (fVar 0) (fVar 1))) sNil) (sRet (fCell (lDisp (aCons (fBin mulD (fCall absD (aCons (fVar 2) aNil)) (fCall intD (aCons (fBin geI (fCall absD (aCons (fVar 2) aNil)) (fBin powI (fC (.int 10)) (fC (.int 18)))) aNil))) (aCons (fBin modI (fBin mulD (fBin addD (fBin addD (fBin modI (fVar 2) (fC (.int 2147483563))) (fBin mulD (fC (.int 88001)) (fVar 1))) (fC (.int 61))) (fC (.int 39869))) (fC (.int 2147483543))) (aCons (fC (.int 0)) aNil))))))))
def F__law_source : List W → Sto → R W:=runF 3 true b__law_source
def b__law_draw (self : List W → Sto → R W) : FS:=(sSeq (sIf (fB (fBin gtI (fBin ixD (fVar 0) (fC (.int 0))) (fC (.int 0)))) (sSeq (sSet 3 (fBin modI (fBin ixD (fVar 0) (fC (.int 0))) (fVar 1))) (sSeq (sAsg (fBin divI (fBin ixD (fVar 0) (fC (.int 0))) (fVar 1)) (oSub (fVar 0) (fC (.int 0)))) (sRet (fVar 3)))) sNil) (sSeq (sIf (fB (fBin gtI (fVar 1) (fBin powI (fC (.int 10)) (fC (.int 7))))) (sRet (fBin modI (fBin addD (fApp 2 self (aCons (fVar 0) (aCons (fBin powI (fC (.int 10)) (fC (.int 7))) aNil))) (fBin mulD (fBin powI (fC (.int 10)) (fC (.int 7))) (fApp 2 self (aCons (fVar 0) (aCons (fBin addD (fBin divI (fVar 1) (fBin powI (fC (.int 10)) (fC (.int 7)))) (fC (.int 1))) aNil))))) (fVar 1))) sNil) (sSeq (sAsg (fBin addD (fBin ixD (fVar 0) (fC (.int 2))) (fC (.int 1))) (oSub (fVar 0) (fC (.int 2)))) (sSeq (sSet 2 (fBin modI (fBin powI (fBin addD (fBin ixD (fVar 0) (fC (.int 1))) (fBin mulD (fC (.int 60013)) (fBin ixD (fVar 0) (fC (.int 2))))) (fC (.int 3))) (fC (.int 2147483579)))) (sRet (fBin modI (fBin divI (fBin modI (fBin addD (fBin mulD (fVar 2) (fBin addD (fBin modI (fVar 2) (fC (.int 40009))) (fC (.int 13)))) (fBin mulD (fBin ixD (fVar 0) (fC (.int 2))) (fC (.int 7459)))) (fC (.int 2147483647))) (fC (.int 32))) (fVar 1)))))))
def F__law_draw : Nat → List W → Sto → R W
 | 0 => fBad
 | n + 1 => runF 4 false (b__law_draw (F__law_draw n))
def b__law_equal (self : List W → Sto → R W) : FS:=(sSeq (sIf (fB (fIsi (fun d => gList d || gTup d) (fVar 1))) (sSeq (sIf (fOr (fB (fBin neD (fIsi gList (fVar 0)) (fIsi gList (fVar 1)))) (fB (fBin neD (fIsi gTup (fVar 0)) (fIsi gTup (fVar 1))))) (sRet (fC (.bool false))) sNil) (sRet (fAndV (fBin eqD (fCall lenD (aCons (fVar 0) aNil)) (fCall lenD (aCons (fVar 1) aNil))) (fCall allD (aCons (fFrz (lComp (iFr (two zipD) (aCons (fVar 0) (aCons (fVar 1) aNil))) [2, 3] (cTup 2 (cnCons 2 (cnCons 3 cnNil))) fYes (fApp 2 self (aCons (fVar 2) (aCons (fVar 3) aNil))))) aNil))))) sNil) (sSeq (sIf (fOr (fB (fBin isN (fVar 1) (fC .none))) (fB (fIsi gStr (fVar 1)))) (sRet (fAndV (fBin eqD (fVar 0) (fVar 1)) (fBin eqD (fIsi gStr (fVar 0)) (fIsi gStr (fVar 1))))) sNil) (sRet (fAndV (fIsi gInt (fVar 0)) (fAndV (fBin eqD (fIsi gBool (fVar 0)) (fIsi gBool (fVar 1))) (fBin eqD (fVar 0) (fVar 1)))))))
def F__law_equal : Nat → List W → Sto → R W
 | 0 => fBad
 | n + 1 => runF 4 false (b__law_equal (F__law_equal n))
end Vz
namespace Vz
open PySem PySem.Spec PyProof.Rows L2
section
variable {S : Sto}
def chI (m : Int) : Nat → Int
 | 0 => 1
 | k + 1 => chI m k * (m - (k : Int)) / ((k : Int) + 1)
abbrev Mark:=Option Int
def canB (m : Mark) (f : Int) : Bool:=match m with
 | none => true
 | some k => decide (k = f - 1)
def gSum (ms : List Mark) (rows : List (List Int)) (l f : Nat) : Int :=
 (((List.range l).filter fun p => canB (ms.getD (f + p) none) (f : Int)).map fun p => chI ((l - 1 : Nat) : Int) p * (rows.getD p []).getD f 0 * (rows.getD (l - 1 - p) []).getD (f + p + 1) 0).sum
def gRow (ms : List Mark) (rows : List (List Int)) (l : Nat) : List Int:=(List.range (ms.length + 1 - l)).map fun f => gSum ms rows l f
def gRows (ms : List Mark) : Nat → List (List Int)
 | 0 => [List.replicate (ms.length + 1) 1]
 | l + 1 => gRows ms l ++ [gRow ms (gRows ms l) (l + 1)]
def gap (ms : List Mark) (l f : Nat) : Int:=((gRows ms l).getD l []).getD f 0
theorem valD_put {κ : Type} [DecidableEq κ] {k k' : κ} {d : D} : ∀ ps : List (κ × D), valD (putD ps k d) k' = if k = k' then some d else valD ps k':=by
 have app : ∀ (ps : List (κ × D)) , valD (ps ++ [(k, d)]) k' = match valD ps k' with | some x => some x | none => if k = k' then some d else none:=by
  intro ps
  induction ps with
  | nil =>
   show (match decide (k = k') with | true => some d | false => valD [] k') = _
   by_cases h : k = k'
   ·simp [h, valD]
   ·simp [h, valD]
  | cons p ps ih =>
   obtain ⟨a, b⟩:=p
   show (match decide (a = k') with | true => some b | false => valD (ps ++ [(k, d)]) k') = match (match decide (a = k') with | true => some b | false => valD ps k') with | some x => some x | none => _
   by_cases h : a = k'
   ·simp [h]
   ·simp only [h, decide_false]
    exact ih
 have mp : ∀ (ps : List (κ × D)), valD (ps.map fun p => if p.1 = k then (p.1, d) else p) k' = if k = k' then (valD ps k').map (fun _ => d) else valD ps k':=by
  intro ps
  induction ps with
  | nil =>
   show none = _
   split <;> rfl
  | cons p ps ih =>
   obtain ⟨a, b⟩:=p
   by_cases hk : a = k
   ·subst hk
    simp only [List.map_cons, if_true]
    show (match decide (a = k') with | true => some d | false => valD _ k') = _
    by_cases h : a = k'
    ·simp [h, valD]
    ·simp only [h, decide_false, if_false] at ih ⊢
     rw [ih]
     show _ = (match decide (a = k') with | true => some b | false => valD ps k')
     simp [h]
   ·simp only [List.map_cons, hk, if_false]
    show (match decide (a = k') with | true => some b | false => valD _ k') = _
    by_cases h : a = k'
    ·subst h
     have : ¬ k = a:=fun z => hk z.symm
     simp [this, valD]
    ·simp only [h, decide_false]
     rw [ih]
     by_cases h2 : k = k'
     ·simp [h2, valD, h]
     ·simp [h2, valD, h]
 have key : ∀ (ps : List (κ × D)), (ps.any fun p => decide (p.1 = k)) = (valD ps k).isSome:=by
  intro ps
  induction ps with
  | nil => rfl
  | cons p ps ih =>
   obtain ⟨a, b⟩:=p
   rw [List.any_cons, ih]
   show _ = (match decide (a = k) with | true => some b | false => valD ps k).isSome
   by_cases h : a = k <;> simp [h]
 intro ps
 unfold putD
 have hk:=key ps
 cases hv : (ps.any fun p => decide (p.1 = k)) with
 | true =>
  rw [hv] at hk
  show valD (ps.map fun p => if p.1 = k then (p.1, d) else p) k' = _
  rw [mp]
  by_cases h : k = k'
  ·subst h
   rw [if_pos rfl, if_pos rfl]
   cases hx : valD ps k with
   | none => rw [hx] at hk; cases hk
   | some _ => rfl
  ·rw [if_neg h, if_neg h]
 | false =>
  rw [hv] at hk
  show valD (ps ++ [(k, d)]) k' = _
  rw [app]
  by_cases h : k = k'
  ·subst h
   cases hx : valD ps k with
   | none => rfl
   | some _ => rw [hx] at hk; cases hk
  ·rw [if_neg h, if_neg h]
   cases valD ps k' <;> rfl
def GapOk (ms : List Mark) (l f : Nat) (ps : List (List Key × D)) : Prop:=∀ f' e' : Nat, f' ≤ e' → e' ≤ ms.length → (e' - f' < l ∨ (e' - f' = l ∧ f' < f)) → valD ps [.inl (f' : Int), .inl (e' : Int)] = some (.int (gap ms (e' - f') f'))
theorem GapOk.put {ms : List Mark} {l f : Nat} {ps : List (List Key × D)} (h : GapOk ms l f ps) : GapOk ms l (f + 1) (putD ps [.inl (f : Int), .inl ((f + l : Nat) : Int)] (.int (gap ms l f))):=by
 intro f' e' h1 h2 h3
 rw [valD_put]
 by_cases hk : f' = f ∧ e' = f + l
 ·obtain ⟨rfl, rfl⟩:=hk
  rw [if_pos rfl, Nat.add_sub_cancel_left]
 ·rw [if_neg (by
   intro z
   simp only [List.cons.injEq, Sum.inl.injEq, and_true] at z
   omega)]
  exact h f' e' h1 h2 (by omega)
theorem intsOf_map : ∀ xs : List Int, intsOf (xs.map D.int) = some xs:=ints_intsOf
end
end Vz
namespace Vz
open PySem PySem.Spec PyProof.Rows L2
inductive Anc where
 | front | unk | it (k : Int)
 deriving DecidableEq
def markA (xs : List Int) : Anc → Mark
 | .front => some (-1)
 | .unk => none
 | .it k => some (xs.idxOf k : Nat)
def Anc.inn (xs : List Int) : Anc → Prop
 | .it k => k ∈ xs
 | _ => True
section
variable {S : Sto} {xs : List Int} {t : D} {as : List Anc}
end
end Vz
namespace Vz
open PySem PySem.Spec PyProof.Rows L2
mutual
def okD : D → Bool
 | .none => true
 | .bool _ => true
 | .int _ => true
 | .str x => PyData.strOk x
 | .list xs => okDs xs && decide (xs.length ≤ lim)
 | .tup _ xs => okDs xs && decide (xs.length ≤ lim)
 | .dT _ => false
 | .dK _ => false
def okDs : List D → Bool
 | [] => true
 | x :: xs => okD x && okDs xs
end
mutual
def dep : D → Nat
 | .list xs => deps xs + 1
 | .tup _ xs => deps xs + 1
 | _ => 0
def deps : List D → Nat
 | [] => 0
 | x :: xs => max (dep x) (deps xs)
end
mutual
def eqT : D → D → Bool
 | .list xs, .list ys => eqTs xs ys
 | .tup _ xs, .tup _ ys => eqTs xs ys
 | .none, .none => true
 | .str x, .str y => x == y
 | .int i, .int j => i == j
 | .bool a, .bool b => a == b
 | _, _ => false
def eqTs : List D → List D → Bool
 | [], [] => true
 | x :: xs, y :: ys => eqT x y && eqTs xs ys
 | _, _ => false
end
mutual
theorem canLay_ok : ∀ {d : D}, okD d = true → d.py.canLay0 = true
 | .none, _ => rfl
 | .bool _, _ => rfl
 | .int _, _ => rfl
 | .str x, h => h
 | .list xs, h => canLays_ok (Bool.and_eq_true_iff.mp h).1
 | .tup _ xs, h => canLays_ok (Bool.and_eq_true_iff.mp h).1
theorem canLays_ok : ∀ {ds : List D}, okDs ds = true → PyData.canLayAll0 (pyAll ds) = true
 | [], _ => rfl
 | x :: xs, h => by
  obtain ⟨h1, h2⟩:=Bool.and_eq_true_iff.mp h
  show (x.py.canLay0 && PyData.canLayAll0 (pyAll xs)) = true
  rw [canLay_ok h1, canLays_ok h2]
  rfl
end
mutual
theorem depth_ok : ∀ (d : D), okD d = true → d.py.depth = dep d
 | .none, _ => rfl
 | .bool _, _ => rfl
 | .int _, _ => rfl
 | .str x, h => rfl
 | .list xs, h => by
  show PyData.depthAll (pyAll xs) + 1 = _
  rw [depths_ok xs (Bool.and_eq_true_iff.mp h).1]
  rfl
 | .tup _ xs, h => by
  show PyData.depthAll (pyAll xs) + 1 = _
  rw [depths_ok xs (Bool.and_eq_true_iff.mp h).1]
  rfl
theorem depths_ok : ∀ (ds : List D), okDs ds = true → PyData.depthAll (pyAll ds) = deps ds
 | [], _ => rfl
 | x :: xs, h => by
  obtain ⟨h1, h2⟩:=Bool.and_eq_true_iff.mp h
  show max x.py.depth (PyData.depthAll (pyAll xs)) = _
  rw [depth_ok x h1, depths_ok xs h2]
  rfl
end
theorem shp_ok {d : D} (h : okD d = true) (h2 : dep d ≤ 64) : shp d = true:=by
 unfold shp SeqAt.shaped
 rw [canLay_ok h, depth_ok d h]
 simpa using h2
theorem okDs_mem : ∀ {ds : List D} {d : D}, okDs ds = true → d ∈ ds → okD d = true
 | x :: xs, d, h, m => by
  obtain ⟨h1, h2⟩:=Bool.and_eq_true_iff.mp h
  rcases List.mem_cons.mp m with e | e
  ·rw [e]; exact h1
  ·exact okDs_mem h2 e
theorem deps_mem : ∀ {ds : List D} {d : D}, d ∈ ds → dep d ≤ deps ds
 | x :: xs, d, m => by
  show _ ≤ max (dep x) (deps xs)
  rcases List.mem_cons.mp m with e | e
  ·rw [e]; exact Nat.le_max_left ..
  ·exact Nat.le_trans (deps_mem e) (Nat.le_max_right ..)
theorem eqTs_zip : ∀ (xs ys : List D), eqTs xs ys = (decide (xs.length = ys.length) && ((xs.zip ys).map fun p => eqT p.1 p.2).all id)
 | [], [] => rfl
 | [], y :: ys => by simp [eqTs]
 | x :: xs, [] => by simp [eqTs]
 | x :: xs, y :: ys => by
  simp only [eqTs, eqTs_zip xs ys, List.zip_cons_cons, List.map_cons, List.all_cons, List.length_cons, Nat.add_right_cancel_iff, id]
  cases eqT x y <;> simp
theorem pairs_zip : ∀ (xs ys : List D), pairs xs ys = (xs.zip ys).map fun p => .tup .key [p.1, p.2]
 | [], _ => by simp [pairs]
 | _ :: _, [] => by simp [pairs]
 | x :: xs, y :: ys => by
  simp only [pairs, pairs_zip xs ys, List.zip_cons_cons, List.map_cons]
theorem boolsOf_map : ∀ bs : List Bool, boolsOf (bs.map D.bool) = some bs
 | [] => rfl
 | b :: bs => by
  show (boolsOf (bs.map D.bool)).bind _ = _
  rw [boolsOf_map bs]
  rfl
theorem neD_bb (a b : Bool) : neD (.bool a) (.bool b) = some (.bool (a != b)):=rfl
theorem eqD_bb (a b : Bool) : eqD (.bool a) (.bool b) = some (.bool (a == b)):=rfl
theorem eqD_of {x y : D} (h1 : shp x = true) (h2 : shp y = true) : eqD x y = some (.bool (PyData.eqv x.py y.py)):=by
 unfold eqD
 rw [h1, h2]
 rfl
theorem neD_of {x y : D} (h1 : shp x = true) (h2 : shp y = true) : neD x y = some (.bool (!PyData.eqv x.py y.py)):=by
 unfold neD
 rw [h1, h2]
 rfl
theorem isN_of (x : D) : isN x .none = some (.bool (match x with | .none => true | _ => false)):=by
 cases x <;> rfl
theorem gB_b (b : Bool) : gBool (.bool b) = true:=rfl
theorem gB_i (b : Int) : gBool (.int b) = false:=rfl
theorem b_tf : (true != false) = true:=rfl
theorem b_ft : (false != true) = true:=rfl
section
variable {S : Sto}
theorem leq_seq {k : Nat} {x y : D} {xs ys : List D} (hx : okDs xs = true) (hlx : xs.length ≤ lim) (hly : ys.length ≤ lim) (sx : seqOf x = some xs) (sy : seqOf y = some ys) (lx : lenD [x] = some (.int (xs.length : Nat))) (ly : lenD [y] = some (.int (ys.length : Nat)))
  (ih : ∀ p ∈ xs.zip ys, F__law_equal k [.dat p.1, .dat p.2] S = .ok (.dat (.bool (eqT p.1 p.2))) S) :
  fAndV (fBin eqD (fCall lenD (aCons (fVar 0) aNil)) (fCall lenD (aCons (fVar 1) aNil))) (fCall allD (aCons (fFrz (lComp (iFr (two zipD) (aCons (fVar 0) (aCons (fVar 1) aNil))) [2, 3] (cTup 2 (cnCons 2 (cnCons 3 cnNil))) fYes (fApp 2 (F__law_equal k) (aCons (fVar 2) (aCons (fVar 3) aNil))))) aNil)) [some (.dat x), some (.dat y), none, none] S = .ok (.dat (.bool (eqTs xs ys))) S:=by
 have hz : iFr (two zipD) (aCons (fVar 0) (aCons (fVar 1) aNil)) [some (.dat x), some (.dat y), none, none] S = .ok (.ds ((xs.zip ys).map fun p => .tup .key [p.1, p.2])) S:=by
  have : zipD x y = some (pairs xs ys):=by
   unfold zipD
   rw [sx, sy]
   rfl
  simp only [sSeq, sSet, sIf, sRet, sRetN, sExpr, sNil, sPass, sAug, sPar, sAsg, sBreak, sCont, sSetL, Out.andThen, R.then, R.bind, R.lift, R.of, R.get, R.noX, fVar, fC, fBin, fB, asB, fAnd, fOr, fNot, fV, fAndV, fOrV, fNotV, fIf, fChain, aNil, aCons, rds, rd2, rd, frd, frds, dats, fTup, fTupK, fFrz, fCell, lDisp, lCat, fCall, lCall, fNo, fYesI, asI, fSl, fFz, fz, fMeth, fMeth0, LstW, lstC, fIndex, fIsi, fNeg, fRev, lRange, fApp, fYes, oName, onNil, onCons, oTup, oSub, stB, cName, cnNil, cnCons, cTup, wipeR, one, two, onL, ne1, bodyF, lcB, iSeq, iArgs, iFr, walk, Wk.ls, seqOf, ifO, cond, cutW, List.getElem?_cons_zero, List.getElem?_cons_succ, List.getElem?_nil, List.take_succ_cons, List.take_zero, List.take_nil, Nat.zero_add, List.set_cons_zero, List.set_cons_succ, List.set_nil, List.map_cons, List.map_nil, List.length_cons, List.length_nil, Option.map_some, Option.map_none, Option.bind_some, Option.bind_none, at_app0, at_appk, set_app0, set_appk, take_app0, take_appk, at_one, set_one, take_one, List.append_assoc, List.cons_append, List.nil_append, List.append_nil, Bool.not_true, Bool.not_false, Bool.and_true, Bool.true_and, Bool.or_true, Bool.true_or, Bool.false_or, Bool.or_false, Bool.and_false, Bool.false_and, decide_true, decide_false, if_true, if_false, ite_true, ite_false, this, pairs_zip]
 have hc:=x_compM (vs:=[2, 3]) (gg:=cTup 2 (cnCons 2 (cnCons 3 cnNil))) (f:=fApp 2 (F__law_equal k) (aCons (fVar 2) (aCons (fVar 3) aNil))) (g:=fun p => .bool (eqT p.1 p.2)) hz (by
  rw [List.length_zip]
  exact Nat.le_trans (Nat.min_le_left ..) hlx) fun p hp => ⟨[], by
   have:=ih p hp
   simp only [sSeq, sSet, sIf, sRet, sRetN, sExpr, sNil, sPass, sAug, sPar, sAsg, sBreak, sCont, sSetL, Out.andThen, R.then, R.bind, R.lift, R.of, R.get, R.noX, fVar, fC, fBin, fB, asB, fAnd, fOr, fNot, fV, fAndV, fOrV, fNotV, fIf, fChain, aNil, aCons, rds, rd2, rd, frd, frds, dats, fTup, fTupK, fFrz, fCell, lDisp, lCat, fCall, lCall, fNo, fYesI, asI, fSl, fFz, fz, fMeth, fMeth0, LstW, lstC, fIndex, fIsi, fNeg, fRev, lRange, fApp, fYes, oName, onNil, onCons, oTup, oSub, stB, cName, cnNil, cnCons, cTup, wipeR, one, two, onL, ne1, bodyF, lcB, iSeq, iArgs, iFr, walk, Wk.ls, seqOf, ifO, cond, cutW, List.getElem?_cons_zero, List.getElem?_cons_succ, List.getElem?_nil, List.take_succ_cons, List.take_zero, List.take_nil, Nat.zero_add, List.set_cons_zero, List.set_cons_succ, List.set_nil, List.map_cons, List.map_nil, List.length_cons, List.length_nil, Option.map_some, Option.map_none, Option.bind_some, Option.bind_none, at_app0, at_appk, set_app0, set_appk, take_app0, take_appk, at_one, set_one, take_one, List.append_assoc, List.cons_append, List.nil_append, List.append_nil, Bool.not_true, Bool.not_false, Bool.and_true, Bool.true_and, Bool.or_true, Bool.true_or, Bool.false_or, Bool.or_false, Bool.and_false, Bool.false_and, decide_true, decide_false, if_true, if_false, ite_true, ite_false, this]⟩
 have hc2 : ((xs.zip ys).map fun p => D.bool (eqT p.1 p.2)) = ((xs.zip ys).map fun p => eqT p.1 p.2).map D.bool:=by
  rw [List.map_map]
  rfl
 rw [hc2] at hc
 rw [eqTs_zip]
 have hlen : decide (((xs.length : Nat) : Int) = ((ys.length : Nat) : Int)) = decide (xs.length = ys.length):=by
  by_cases h : xs.length = ys.length
  ·rw [decide_eq_true h, decide_eq_true (by omega)]
  ·rw [decide_eq_false h, decide_eq_false (by omega)]
 simp only [sSeq, sSet, sIf, sRet, sRetN, sExpr, sNil, sPass, sAug, sPar, sAsg, sBreak, sCont, sSetL, Out.andThen, R.then, R.bind, R.lift, R.of, R.get, R.noX, fVar, fC, fBin, fB, asB, fAnd, fOr, fNot, fV, fAndV, fOrV, fNotV, fIf, fChain, aNil, aCons, rds, rd2, rd, frd, frds, dats, fTup, fTupK, fFrz, fCell, lDisp, lCat, fCall, lCall, fNo, fYesI, asI, fSl, fFz, fz, fMeth, fMeth0, LstW, lstC, fIndex, fIsi, fNeg, fRev, lRange, fApp, fYes, oName, onNil, onCons, oTup, oSub, stB, cName, cnNil, cnCons, cTup, wipeR, one, two, onL, ne1, bodyF, lcB, iSeq, iArgs, iFr, walk, Wk.ls, seqOf, ifO, cond, cutW, List.getElem?_cons_zero, List.getElem?_cons_succ, List.getElem?_nil, List.take_succ_cons, List.take_zero, List.take_nil, Nat.zero_add, List.set_cons_zero, List.set_cons_succ, List.set_nil, List.map_cons, List.map_nil, List.length_cons, List.length_nil, Option.map_some, Option.map_none, Option.bind_some, Option.bind_none, at_app0, at_appk, set_app0, set_appk, take_app0, take_appk, at_one, set_one, take_one, List.append_assoc, List.cons_append, List.nil_append, List.append_nil, Bool.not_true, Bool.not_false, Bool.and_true, Bool.true_and, Bool.or_true, Bool.true_or, Bool.false_or, Bool.or_false, Bool.and_false, Bool.false_and, decide_true, decide_false, if_true, if_false, ite_true, ite_false, lx, ly, eqD_ii, hc, hlen]
 cases decide (xs.length = ys.length) with
 | false => simp only [sSeq, sSet, sIf, sRet, sRetN, sExpr, sNil, sPass, sAug, sPar, sAsg, sBreak, sCont, sSetL, Out.andThen, R.then, R.bind, R.lift, R.of, R.get, R.noX, fVar, fC, fBin, fB, asB, fAnd, fOr, fNot, fV, fAndV, fOrV, fNotV, fIf, fChain, aNil, aCons, rds, rd2, rd, frd, frds, dats, fTup, fTupK, fFrz, fCell, lDisp, lCat, fCall, lCall, fNo, fYesI, asI, fSl, fFz, fz, fMeth, fMeth0, LstW, lstC, fIndex, fIsi, fNeg, fRev, lRange, fApp, fYes, oName, onNil, onCons, oTup, oSub, stB, cName, cnNil, cnCons, cTup, wipeR, one, two, onL, ne1, bodyF, lcB, iSeq, iArgs, iFr, walk, Wk.ls, seqOf, ifO, cond, cutW, List.getElem?_cons_zero, List.getElem?_cons_succ, List.getElem?_nil, List.take_succ_cons, List.take_zero, List.take_nil, Nat.zero_add, List.set_cons_zero, List.set_cons_succ, List.set_nil, List.map_cons, List.map_nil, List.length_cons, List.length_nil, Option.map_some, Option.map_none, Option.bind_some, Option.bind_none, at_app0, at_appk, set_app0, set_appk, take_app0, take_appk, at_one, set_one, take_one, List.append_assoc, List.cons_append, List.nil_append, List.append_nil, Bool.not_true, Bool.not_false, Bool.and_true, Bool.true_and, Bool.or_true, Bool.true_or, Bool.false_or, Bool.or_false, Bool.and_false, Bool.false_and, decide_true, decide_false, if_true, if_false, ite_true, ite_false]
 | true => simp only [sSeq, sSet, sIf, sRet, sRetN, sExpr, sNil, sPass, sAug, sPar, sAsg, sBreak, sCont, sSetL, Out.andThen, R.then, R.bind, R.lift, R.of, R.get, R.noX, fVar, fC, fBin, fB, asB, fAnd, fOr, fNot, fV, fAndV, fOrV, fNotV, fIf, fChain, aNil, aCons, rds, rd2, rd, frd, frds, dats, fTup, fTupK, fFrz, fCell, lDisp, lCat, fCall, lCall, fNo, fYesI, asI, fSl, fFz, fz, fMeth, fMeth0, LstW, lstC, fIndex, fIsi, fNeg, fRev, lRange, fApp, fYes, oName, onNil, onCons, oTup, oSub, stB, cName, cnNil, cnCons, cTup, wipeR, one, two, onL, ne1, bodyF, lcB, iSeq, iArgs, iFr, walk, Wk.ls, seqOf, ifO, cond, cutW, List.getElem?_cons_zero, List.getElem?_cons_succ, List.getElem?_nil, List.take_succ_cons, List.take_zero, List.take_nil, Nat.zero_add, List.set_cons_zero, List.set_cons_succ, List.set_nil, List.map_cons, List.map_nil, List.length_cons, List.length_nil, Option.map_some, Option.map_none, Option.bind_some, Option.bind_none, at_app0, at_appk, set_app0, set_appk, take_app0, take_appk, at_one, set_one, take_one, List.append_assoc, List.cons_append, List.nil_append, List.append_nil, Bool.not_true, Bool.not_false, Bool.and_true, Bool.true_and, Bool.or_true, Bool.true_or, Bool.false_or, Bool.or_false, Bool.and_false, Bool.false_and, decide_true, decide_false, if_true, if_false, ite_true, ite_false, allD, boolsOf_map]
theorem eqv_flat {x y : D} (hy : dep y = 0) (oy : okD y = true) : eqT x y = (match y with
  | .none => PyData.eqv x.py y.py && (gStr x == false)
  | .str _ => PyData.eqv x.py y.py && (gStr x == true)
  | y => gInt x && ((gBool x == gBool y) && PyData.eqv x.py y.py)):=by
 cases y with
 | none => cases x <;> simp [eqT, D.py, PyData.eqv, gStr]
 | str s => cases x <;> simp [eqT, D.py, PyData.eqv, gStr]
 | bool b => cases x <;> simp [eqT, D.py, PyData.eqv, gInt, gBool]
 | int i => cases x <;> simp [eqT, D.py, PyData.eqv, gInt, gBool]
 | list _ => simp [dep] at hy
 | tup _ _ => simp [dep] at hy
 | dT _ => cases oy
 | dK _ => cases oy
theorem leq_flat {k : Nat} {x y : D} (hx : okD x = true) (hy : okD y = true) (dx : dep x ≤ 60) (dy : dep y = 0) : F__law_equal (k + 1) [.dat x, .dat y] S = .ok (.dat (.bool (eqT x y))) S:=by
 have e1:=eqD_of (shp_ok hx (by omega)) (shp_ok (d:=y) hy (by omega))
 rw [eqv_flat dy hy]
 refine run_dat (T:=[]) ?_
 cases y with
 | none =>
  simp only [b__law_equal, sSeq, sSet, sIf, sRet, sRetN, sExpr, sNil, sPass, sAug, sPar, sAsg, sBreak, sCont, sSetL, Out.andThen, R.then, R.bind, R.lift, R.of, R.get, R.noX, fVar, fC, fBin, fB, asB, fAnd, fOr, fNot, fV, fAndV, fOrV, fNotV, fIf, fChain, aNil, aCons, rds, rd2, rd, frd, frds, dats, fTup, fTupK, fFrz, fCell, lDisp, lCat, fCall, lCall, fNo, fYesI, asI, fSl, fFz, fz, fMeth, fMeth0, LstW, lstC, fIndex, fIsi, fNeg, fRev, lRange, fApp, fYes, oName, onNil, onCons, oTup, oSub, stB, cName, cnNil, cnCons, cTup, wipeR, one, two, onL, ne1, bodyF, lcB, iSeq, iArgs, iFr, walk, Wk.ls, seqOf, ifO, cond, cutW, List.getElem?_cons_zero, List.getElem?_cons_succ, List.getElem?_nil, List.take_succ_cons, List.take_zero, List.take_nil, Nat.zero_add, List.set_cons_zero, List.set_cons_succ, List.set_nil, List.map_cons, List.map_nil, List.length_cons, List.length_nil, Option.map_some, Option.map_none, Option.bind_some, Option.bind_none, at_app0, at_appk, set_app0, set_appk, take_app0, take_appk, at_one, set_one, take_one, List.append_assoc, List.cons_append, List.nil_append, List.append_nil, Bool.not_true, Bool.not_false, Bool.and_true, Bool.true_and, Bool.or_true, Bool.true_or, Bool.false_or, Bool.or_false, Bool.and_false, Bool.false_and, decide_true, decide_false, if_true, if_false, ite_true, ite_false, List.replicate, gList, gTup, gStr, isN_non, e1, eqD_bb]
  cases PyData.eqv x.py D.none.py <;> simp only [sSeq, sSet, sIf, sRet, sRetN, sExpr, sNil, sPass, sAug, sPar, sAsg, sBreak, sCont, sSetL, Out.andThen, R.then, R.bind, R.lift, R.of, R.get, R.noX, fVar, fC, fBin, fB, asB, fAnd, fOr, fNot, fV, fAndV, fOrV, fNotV, fIf, fChain, aNil, aCons, rds, rd2, rd, frd, frds, dats, fTup, fTupK, fFrz, fCell, lDisp, lCat, fCall, lCall, fNo, fYesI, asI, fSl, fFz, fz, fMeth, fMeth0, LstW, lstC, fIndex, fIsi, fNeg, fRev, lRange, fApp, fYes, oName, onNil, onCons, oTup, oSub, stB, cName, cnNil, cnCons, cTup, wipeR, one, two, onL, ne1, bodyF, lcB, iSeq, iArgs, iFr, walk, Wk.ls, seqOf, ifO, cond, cutW, List.getElem?_cons_zero, List.getElem?_cons_succ, List.getElem?_nil, List.take_succ_cons, List.take_zero, List.take_nil, Nat.zero_add, List.set_cons_zero, List.set_cons_succ, List.set_nil, List.map_cons, List.map_nil, List.length_cons, List.length_nil, Option.map_some, Option.map_none, Option.bind_some, Option.bind_none, at_app0, at_appk, set_app0, set_appk, take_app0, take_appk, at_one, set_one, take_one, List.append_assoc, List.cons_append, List.nil_append, List.append_nil, Bool.not_true, Bool.not_false, Bool.and_true, Bool.true_and, Bool.or_true, Bool.true_or, Bool.false_or, Bool.or_false, Bool.and_false, Bool.false_and, decide_true, decide_false, if_true, if_false, ite_true, ite_false]
 | str s =>
  simp only [b__law_equal, sSeq, sSet, sIf, sRet, sRetN, sExpr, sNil, sPass, sAug, sPar, sAsg, sBreak, sCont, sSetL, Out.andThen, R.then, R.bind, R.lift, R.of, R.get, R.noX, fVar, fC, fBin, fB, asB, fAnd, fOr, fNot, fV, fAndV, fOrV, fNotV, fIf, fChain, aNil, aCons, rds, rd2, rd, frd, frds, dats, fTup, fTupK, fFrz, fCell, lDisp, lCat, fCall, lCall, fNo, fYesI, asI, fSl, fFz, fz, fMeth, fMeth0, LstW, lstC, fIndex, fIsi, fNeg, fRev, lRange, fApp, fYes, oName, onNil, onCons, oTup, oSub, stB, cName, cnNil, cnCons, cTup, wipeR, one, two, onL, ne1, bodyF, lcB, iSeq, iArgs, iFr, walk, Wk.ls, seqOf, ifO, cond, cutW, List.getElem?_cons_zero, List.getElem?_cons_succ, List.getElem?_nil, List.take_succ_cons, List.take_zero, List.take_nil, Nat.zero_add, List.set_cons_zero, List.set_cons_succ, List.set_nil, List.map_cons, List.map_nil, List.length_cons, List.length_nil, Option.map_some, Option.map_none, Option.bind_some, Option.bind_none, at_app0, at_appk, set_app0, set_appk, take_app0, take_appk, at_one, set_one, take_one, List.append_assoc, List.cons_append, List.nil_append, List.append_nil, Bool.not_true, Bool.not_false, Bool.and_true, Bool.true_and, Bool.or_true, Bool.true_or, Bool.false_or, Bool.or_false, Bool.and_false, Bool.false_and, decide_true, decide_false, if_true, if_false, ite_true, ite_false, List.replicate, gList, gTup, gStr, isN_str, e1, eqD_bb]
  cases PyData.eqv x.py (D.str s).py <;> simp only [sSeq, sSet, sIf, sRet, sRetN, sExpr, sNil, sPass, sAug, sPar, sAsg, sBreak, sCont, sSetL, Out.andThen, R.then, R.bind, R.lift, R.of, R.get, R.noX, fVar, fC, fBin, fB, asB, fAnd, fOr, fNot, fV, fAndV, fOrV, fNotV, fIf, fChain, aNil, aCons, rds, rd2, rd, frd, frds, dats, fTup, fTupK, fFrz, fCell, lDisp, lCat, fCall, lCall, fNo, fYesI, asI, fSl, fFz, fz, fMeth, fMeth0, LstW, lstC, fIndex, fIsi, fNeg, fRev, lRange, fApp, fYes, oName, onNil, onCons, oTup, oSub, stB, cName, cnNil, cnCons, cTup, wipeR, one, two, onL, ne1, bodyF, lcB, iSeq, iArgs, iFr, walk, Wk.ls, seqOf, ifO, cond, cutW, List.getElem?_cons_zero, List.getElem?_cons_succ, List.getElem?_nil, List.take_succ_cons, List.take_zero, List.take_nil, Nat.zero_add, List.set_cons_zero, List.set_cons_succ, List.set_nil, List.map_cons, List.map_nil, List.length_cons, List.length_nil, Option.map_some, Option.map_none, Option.bind_some, Option.bind_none, at_app0, at_appk, set_app0, set_appk, take_app0, take_appk, at_one, set_one, take_one, List.append_assoc, List.cons_append, List.nil_append, List.append_nil, Bool.not_true, Bool.not_false, Bool.and_true, Bool.true_and, Bool.or_true, Bool.true_or, Bool.false_or, Bool.or_false, Bool.and_false, Bool.false_and, decide_true, decide_false, if_true, if_false, ite_true, ite_false]
 | bool b =>
  have:=isN_of (.bool b)
  simp only [b__law_equal, sSeq, sSet, sIf, sRet, sRetN, sExpr, sNil, sPass, sAug, sPar, sAsg, sBreak, sCont, sSetL, Out.andThen, R.then, R.bind, R.lift, R.of, R.get, R.noX, fVar, fC, fBin, fB, asB, fAnd, fOr, fNot, fV, fAndV, fOrV, fNotV, fIf, fChain, aNil, aCons, rds, rd2, rd, frd, frds, dats, fTup, fTupK, fFrz, fCell, lDisp, lCat, fCall, lCall, fNo, fYesI, asI, fSl, fFz, fz, fMeth, fMeth0, LstW, lstC, fIndex, fIsi, fNeg, fRev, lRange, fApp, fYes, oName, onNil, onCons, oTup, oSub, stB, cName, cnNil, cnCons, cTup, wipeR, one, two, onL, ne1, bodyF, lcB, iSeq, iArgs, iFr, walk, Wk.ls, seqOf, ifO, cond, cutW, List.getElem?_cons_zero, List.getElem?_cons_succ, List.getElem?_nil, List.take_succ_cons, List.take_zero, List.take_nil, Nat.zero_add, List.set_cons_zero, List.set_cons_succ, List.set_nil, List.map_cons, List.map_nil, List.length_cons, List.length_nil, Option.map_some, Option.map_none, Option.bind_some, Option.bind_none, at_app0, at_appk, set_app0, set_appk, take_app0, take_appk, at_one, set_one, take_one, List.append_assoc, List.cons_append, List.nil_append, List.append_nil, Bool.not_true, Bool.not_false, Bool.and_true, Bool.true_and, Bool.or_true, Bool.true_or, Bool.false_or, Bool.or_false, Bool.and_false, Bool.false_and, decide_true, decide_false, if_true, if_false, ite_true, ite_false, List.replicate, gList, gTup, gStr, this, e1, eqD_bb, gB_b]
  cases gInt x <;> simp only [sSeq, sSet, sIf, sRet, sRetN, sExpr, sNil, sPass, sAug, sPar, sAsg, sBreak, sCont, sSetL, Out.andThen, R.then, R.bind, R.lift, R.of, R.get, R.noX, fVar, fC, fBin, fB, asB, fAnd, fOr, fNot, fV, fAndV, fOrV, fNotV, fIf, fChain, aNil, aCons, rds, rd2, rd, frd, frds, dats, fTup, fTupK, fFrz, fCell, lDisp, lCat, fCall, lCall, fNo, fYesI, asI, fSl, fFz, fz, fMeth, fMeth0, LstW, lstC, fIndex, fIsi, fNeg, fRev, lRange, fApp, fYes, oName, onNil, onCons, oTup, oSub, stB, cName, cnNil, cnCons, cTup, wipeR, one, two, onL, ne1, bodyF, lcB, iSeq, iArgs, iFr, walk, Wk.ls, seqOf, ifO, cond, cutW, List.getElem?_cons_zero, List.getElem?_cons_succ, List.getElem?_nil, List.take_succ_cons, List.take_zero, List.take_nil, Nat.zero_add, List.set_cons_zero, List.set_cons_succ, List.set_nil, List.map_cons, List.map_nil, List.length_cons, List.length_nil, Option.map_some, Option.map_none, Option.bind_some, Option.bind_none, at_app0, at_appk, set_app0, set_appk, take_app0, take_appk, at_one, set_one, take_one, List.append_assoc, List.cons_append, List.nil_append, List.append_nil, Bool.not_true, Bool.not_false, Bool.and_true, Bool.true_and, Bool.or_true, Bool.true_or, Bool.false_or, Bool.or_false, Bool.and_false, Bool.false_and, decide_true, decide_false, if_true, if_false, ite_true, ite_false]
  cases (gBool x == true) <;> simp only [sSeq, sSet, sIf, sRet, sRetN, sExpr, sNil, sPass, sAug, sPar, sAsg, sBreak, sCont, sSetL, Out.andThen, R.then, R.bind, R.lift, R.of, R.get, R.noX, fVar, fC, fBin, fB, asB, fAnd, fOr, fNot, fV, fAndV, fOrV, fNotV, fIf, fChain, aNil, aCons, rds, rd2, rd, frd, frds, dats, fTup, fTupK, fFrz, fCell, lDisp, lCat, fCall, lCall, fNo, fYesI, asI, fSl, fFz, fz, fMeth, fMeth0, LstW, lstC, fIndex, fIsi, fNeg, fRev, lRange, fApp, fYes, oName, onNil, onCons, oTup, oSub, stB, cName, cnNil, cnCons, cTup, wipeR, one, two, onL, ne1, bodyF, lcB, iSeq, iArgs, iFr, walk, Wk.ls, seqOf, ifO, cond, cutW, List.getElem?_cons_zero, List.getElem?_cons_succ, List.getElem?_nil, List.take_succ_cons, List.take_zero, List.take_nil, Nat.zero_add, List.set_cons_zero, List.set_cons_succ, List.set_nil, List.map_cons, List.map_nil, List.length_cons, List.length_nil, Option.map_some, Option.map_none, Option.bind_some, Option.bind_none, at_app0, at_appk, set_app0, set_appk, take_app0, take_appk, at_one, set_one, take_one, List.append_assoc, List.cons_append, List.nil_append, List.append_nil, Bool.not_true, Bool.not_false, Bool.and_true, Bool.true_and, Bool.or_true, Bool.true_or, Bool.false_or, Bool.or_false, Bool.and_false, Bool.false_and, decide_true, decide_false, if_true, if_false, ite_true, ite_false]
 | int i =>
  simp only [b__law_equal, sSeq, sSet, sIf, sRet, sRetN, sExpr, sNil, sPass, sAug, sPar, sAsg, sBreak, sCont, sSetL, Out.andThen, R.then, R.bind, R.lift, R.of, R.get, R.noX, fVar, fC, fBin, fB, asB, fAnd, fOr, fNot, fV, fAndV, fOrV, fNotV, fIf, fChain, aNil, aCons, rds, rd2, rd, frd, frds, dats, fTup, fTupK, fFrz, fCell, lDisp, lCat, fCall, lCall, fNo, fYesI, asI, fSl, fFz, fz, fMeth, fMeth0, LstW, lstC, fIndex, fIsi, fNeg, fRev, lRange, fApp, fYes, oName, onNil, onCons, oTup, oSub, stB, cName, cnNil, cnCons, cTup, wipeR, one, two, onL, ne1, bodyF, lcB, iSeq, iArgs, iFr, walk, Wk.ls, seqOf, ifO, cond, cutW, List.getElem?_cons_zero, List.getElem?_cons_succ, List.getElem?_nil, List.take_succ_cons, List.take_zero, List.take_nil, Nat.zero_add, List.set_cons_zero, List.set_cons_succ, List.set_nil, List.map_cons, List.map_nil, List.length_cons, List.length_nil, Option.map_some, Option.map_none, Option.bind_some, Option.bind_none, at_app0, at_appk, set_app0, set_appk, take_app0, take_appk, at_one, set_one, take_one, List.append_assoc, List.cons_append, List.nil_append, List.append_nil, Bool.not_true, Bool.not_false, Bool.and_true, Bool.true_and, Bool.or_true, Bool.true_or, Bool.false_or, Bool.or_false, Bool.and_false, Bool.false_and, decide_true, decide_false, if_true, if_false, ite_true, ite_false, List.replicate, gList, gTup, gStr, isN_int, e1, eqD_bb, gB_i]
  cases gInt x <;> simp only [sSeq, sSet, sIf, sRet, sRetN, sExpr, sNil, sPass, sAug, sPar, sAsg, sBreak, sCont, sSetL, Out.andThen, R.then, R.bind, R.lift, R.of, R.get, R.noX, fVar, fC, fBin, fB, asB, fAnd, fOr, fNot, fV, fAndV, fOrV, fNotV, fIf, fChain, aNil, aCons, rds, rd2, rd, frd, frds, dats, fTup, fTupK, fFrz, fCell, lDisp, lCat, fCall, lCall, fNo, fYesI, asI, fSl, fFz, fz, fMeth, fMeth0, LstW, lstC, fIndex, fIsi, fNeg, fRev, lRange, fApp, fYes, oName, onNil, onCons, oTup, oSub, stB, cName, cnNil, cnCons, cTup, wipeR, one, two, onL, ne1, bodyF, lcB, iSeq, iArgs, iFr, walk, Wk.ls, seqOf, ifO, cond, cutW, List.getElem?_cons_zero, List.getElem?_cons_succ, List.getElem?_nil, List.take_succ_cons, List.take_zero, List.take_nil, Nat.zero_add, List.set_cons_zero, List.set_cons_succ, List.set_nil, List.map_cons, List.map_nil, List.length_cons, List.length_nil, Option.map_some, Option.map_none, Option.bind_some, Option.bind_none, at_app0, at_appk, set_app0, set_appk, take_app0, take_appk, at_one, set_one, take_one, List.append_assoc, List.cons_append, List.nil_append, List.append_nil, Bool.not_true, Bool.not_false, Bool.and_true, Bool.true_and, Bool.or_true, Bool.true_or, Bool.false_or, Bool.or_false, Bool.and_false, Bool.false_and, decide_true, decide_false, if_true, if_false, ite_true, ite_false]
  cases (gBool x == false) <;> simp only [sSeq, sSet, sIf, sRet, sRetN, sExpr, sNil, sPass, sAug, sPar, sAsg, sBreak, sCont, sSetL, Out.andThen, R.then, R.bind, R.lift, R.of, R.get, R.noX, fVar, fC, fBin, fB, asB, fAnd, fOr, fNot, fV, fAndV, fOrV, fNotV, fIf, fChain, aNil, aCons, rds, rd2, rd, frd, frds, dats, fTup, fTupK, fFrz, fCell, lDisp, lCat, fCall, lCall, fNo, fYesI, asI, fSl, fFz, fz, fMeth, fMeth0, LstW, lstC, fIndex, fIsi, fNeg, fRev, lRange, fApp, fYes, oName, onNil, onCons, oTup, oSub, stB, cName, cnNil, cnCons, cTup, wipeR, one, two, onL, ne1, bodyF, lcB, iSeq, iArgs, iFr, walk, Wk.ls, seqOf, ifO, cond, cutW, List.getElem?_cons_zero, List.getElem?_cons_succ, List.getElem?_nil, List.take_succ_cons, List.take_zero, List.take_nil, Nat.zero_add, List.set_cons_zero, List.set_cons_succ, List.set_nil, List.map_cons, List.map_nil, List.length_cons, List.length_nil, Option.map_some, Option.map_none, Option.bind_some, Option.bind_none, at_app0, at_appk, set_app0, set_appk, take_app0, take_appk, at_one, set_one, take_one, List.append_assoc, List.cons_append, List.nil_append, List.append_nil, Bool.not_true, Bool.not_false, Bool.and_true, Bool.true_and, Bool.or_true, Bool.true_or, Bool.false_or, Bool.or_false, Bool.and_false, Bool.false_and, decide_true, decide_false, if_true, if_false, ite_true, ite_false]
 | list _ => simp [dep] at dy
 | tup _ _ => simp [dep] at dy
 | dT _ => cases hy
 | dK _ => cases hy
theorem leq_ok : ∀ (k : Nat) (x y : D), okD x = true → okD y = true → dep x ≤ 60 → dep y < k → F__law_equal k [.dat x, .dat y] S = .ok (.dat (.bool (eqT x y))) S
 | 0, _, _, _, _, _, h => by omega
 | k + 1, x, y, hx, hy, dx, dy => by
  by_cases d0 : dep y = 0
  ·exact leq_flat hx hy dx d0
  ·cases y with
   | list ys =>
    obtain ⟨hys, ly⟩:=Bool.and_eq_true_iff.mp hy
    have ly:=of_decide_eq_true ly
    refine run_dat (T:=[]) ?_
    cases x with
    | list xs =>
     obtain ⟨hxs, lx⟩:=Bool.and_eq_true_iff.mp hx
     have lx:=of_decide_eq_true lx
     have:=leq_seq (S:=S) (k:=k) (x:=.list xs) (y:=.list ys) hxs lx ly rfl rfl rfl rfl fun p hp => by
      have m:=List.of_mem_zip (a:=p.1) (b:=p.2) hp
      have m1:=deps_mem m.1
      have m2:=deps_mem m.2
      simp only [dep] at dx dy
      exact leq_ok k p.1 p.2 (okDs_mem hxs m.1) (okDs_mem hys m.2) (by omega) (by omega)
     simp only [b__law_equal, sSeq, sIf, fOr, fIsi, fB, fVar, fBin, List.replicate, List.map_cons, List.map_nil, List.length_cons, List.length_nil, List.cons_append, List.nil_append, List.getElem?_cons_zero, List.getElem?_cons_succ, R.bind, R.lift, rd, rd2, Option.map_some, Option.bind_some, asB, R.then, Out.andThen, gList, gTup, Bool.or_true, Bool.true_or, Bool.or_false, neD_bb, sNil, sRet]
     simp only [bne_self_eq_false, asB, sRet] at this ⊢
     show (R.then (fAndV _ _ [some (.dat (.list xs)), some (.dat (.list ys)), none, none] S) _ _ : Out).andThen _ = _
     rw [this]
     simp only [eqT, sSeq, sSet, sIf, sRet, sRetN, sExpr, sNil, sPass, sAug, sPar, sAsg, sBreak, sCont, sSetL, Out.andThen, R.then, R.bind, R.lift, R.of, R.get, R.noX, fVar, fC, fBin, fB, asB, fAnd, fOr, fNot, fV, fAndV, fOrV, fNotV, fIf, fChain, aNil, aCons, rds, rd2, rd, frd, frds, dats, fTup, fTupK, fFrz, fCell, lDisp, lCat, fCall, lCall, fNo, fYesI, asI, fSl, fFz, fz, fMeth, fMeth0, LstW, lstC, fIndex, fIsi, fNeg, fRev, lRange, fApp, fYes, oName, onNil, onCons, oTup, oSub, stB, cName, cnNil, cnCons, cTup, wipeR, one, two, onL, ne1, bodyF, lcB, iSeq, iArgs, iFr, walk, Wk.ls, seqOf, ifO, cond, cutW, List.getElem?_cons_zero, List.getElem?_cons_succ, List.getElem?_nil, List.take_succ_cons, List.take_zero, List.take_nil, Nat.zero_add, List.set_cons_zero, List.set_cons_succ, List.set_nil, List.map_cons, List.map_nil, List.length_cons, List.length_nil, Option.map_some, Option.map_none, Option.bind_some, Option.bind_none, at_app0, at_appk, set_app0, set_appk, take_app0, take_appk, at_one, set_one, take_one, List.append_assoc, List.cons_append, List.nil_append, List.append_nil, Bool.not_true, Bool.not_false, Bool.and_true, Bool.true_and, Bool.or_true, Bool.true_or, Bool.false_or, Bool.or_false, Bool.and_false, Bool.false_and, decide_true, decide_false, if_true, if_false, ite_true, ite_false]
    | _ => simp only [b__law_equal, sSeq, sSet, sIf, sRet, sRetN, sExpr, sNil, sPass, sAug, sPar, sAsg, sBreak, sCont, sSetL, Out.andThen, R.then, R.bind, R.lift, R.of, R.get, R.noX, fVar, fC, fBin, fB, asB, fAnd, fOr, fNot, fV, fAndV, fOrV, fNotV, fIf, fChain, aNil, aCons, rds, rd2, rd, frd, frds, dats, fTup, fTupK, fFrz, fCell, lDisp, lCat, fCall, lCall, fNo, fYesI, asI, fSl, fFz, fz, fMeth, fMeth0, LstW, lstC, fIndex, fIsi, fNeg, fRev, lRange, fApp, fYes, oName, onNil, onCons, oTup, oSub, stB, cName, cnNil, cnCons, cTup, wipeR, one, two, onL, ne1, bodyF, lcB, iSeq, iArgs, iFr, walk, Wk.ls, seqOf, ifO, cond, cutW, List.getElem?_cons_zero, List.getElem?_cons_succ, List.getElem?_nil, List.take_succ_cons, List.take_zero, List.take_nil, Nat.zero_add, List.set_cons_zero, List.set_cons_succ, List.set_nil, List.map_cons, List.map_nil, List.length_cons, List.length_nil, Option.map_some, Option.map_none, Option.bind_some, Option.bind_none, at_app0, at_appk, set_app0, set_appk, take_app0, take_appk, at_one, set_one, take_one, List.append_assoc, List.cons_append, List.nil_append, List.append_nil, Bool.not_true, Bool.not_false, Bool.and_true, Bool.true_and, Bool.or_true, Bool.true_or, Bool.false_or, Bool.or_false, Bool.and_false, Bool.false_and, decide_true, decide_false, if_true, if_false, ite_true, ite_false, List.replicate, gList, gTup, neD_bb, eqT, bne_self_eq_false, b_tf, b_ft]
   | tup f ys =>
    obtain ⟨hys, ly⟩:=Bool.and_eq_true_iff.mp hy
    have ly:=of_decide_eq_true ly
    refine run_dat (T:=[]) ?_
    cases x with
    | tup g xs =>
     obtain ⟨hxs, lx⟩:=Bool.and_eq_true_iff.mp hx
     have lx:=of_decide_eq_true lx
     have:=leq_seq (S:=S) (k:=k) (x:=.tup g xs) (y:=.tup f ys) hxs lx ly rfl rfl rfl rfl fun p hp => by
      have m:=List.of_mem_zip (a:=p.1) (b:=p.2) hp
      have m1:=deps_mem m.1
      have m2:=deps_mem m.2
      simp only [dep] at dx dy
      exact leq_ok k p.1 p.2 (okDs_mem hxs m.1) (okDs_mem hys m.2) (by omega) (by omega)
     simp only [b__law_equal, sSeq, sIf, fOr, fIsi, fB, fVar, fBin, List.replicate, List.map_cons, List.map_nil, List.length_cons, List.length_nil, List.cons_append, List.nil_append, List.getElem?_cons_zero, List.getElem?_cons_succ, R.bind, R.lift, rd, rd2, Option.map_some, Option.bind_some, asB, R.then, Out.andThen, gList, gTup, Bool.or_true, Bool.true_or, Bool.or_false, neD_bb, sNil, sRet]
     simp only [bne_self_eq_false, asB, sRet] at this ⊢
     show (R.then (fAndV _ _ [some (.dat (.tup g xs)), some (.dat (.tup f ys)), none, none] S) _ _ : Out).andThen _ = _
     rw [this]
     simp only [eqT, sSeq, sSet, sIf, sRet, sRetN, sExpr, sNil, sPass, sAug, sPar, sAsg, sBreak, sCont, sSetL, Out.andThen, R.then, R.bind, R.lift, R.of, R.get, R.noX, fVar, fC, fBin, fB, asB, fAnd, fOr, fNot, fV, fAndV, fOrV, fNotV, fIf, fChain, aNil, aCons, rds, rd2, rd, frd, frds, dats, fTup, fTupK, fFrz, fCell, lDisp, lCat, fCall, lCall, fNo, fYesI, asI, fSl, fFz, fz, fMeth, fMeth0, LstW, lstC, fIndex, fIsi, fNeg, fRev, lRange, fApp, fYes, oName, onNil, onCons, oTup, oSub, stB, cName, cnNil, cnCons, cTup, wipeR, one, two, onL, ne1, bodyF, lcB, iSeq, iArgs, iFr, walk, Wk.ls, seqOf, ifO, cond, cutW, List.getElem?_cons_zero, List.getElem?_cons_succ, List.getElem?_nil, List.take_succ_cons, List.take_zero, List.take_nil, Nat.zero_add, List.set_cons_zero, List.set_cons_succ, List.set_nil, List.map_cons, List.map_nil, List.length_cons, List.length_nil, Option.map_some, Option.map_none, Option.bind_some, Option.bind_none, at_app0, at_appk, set_app0, set_appk, take_app0, take_appk, at_one, set_one, take_one, List.append_assoc, List.cons_append, List.nil_append, List.append_nil, Bool.not_true, Bool.not_false, Bool.and_true, Bool.true_and, Bool.or_true, Bool.true_or, Bool.false_or, Bool.or_false, Bool.and_false, Bool.false_and, decide_true, decide_false, if_true, if_false, ite_true, ite_false]
    | _ => simp only [b__law_equal, sSeq, sSet, sIf, sRet, sRetN, sExpr, sNil, sPass, sAug, sPar, sAsg, sBreak, sCont, sSetL, Out.andThen, R.then, R.bind, R.lift, R.of, R.get, R.noX, fVar, fC, fBin, fB, asB, fAnd, fOr, fNot, fV, fAndV, fOrV, fNotV, fIf, fChain, aNil, aCons, rds, rd2, rd, frd, frds, dats, fTup, fTupK, fFrz, fCell, lDisp, lCat, fCall, lCall, fNo, fYesI, asI, fSl, fFz, fz, fMeth, fMeth0, LstW, lstC, fIndex, fIsi, fNeg, fRev, lRange, fApp, fYes, oName, onNil, onCons, oTup, oSub, stB, cName, cnNil, cnCons, cTup, wipeR, one, two, onL, ne1, bodyF, lcB, iSeq, iArgs, iFr, walk, Wk.ls, seqOf, ifO, cond, cutW, List.getElem?_cons_zero, List.getElem?_cons_succ, List.getElem?_nil, List.take_succ_cons, List.take_zero, List.take_nil, Nat.zero_add, List.set_cons_zero, List.set_cons_succ, List.set_nil, List.map_cons, List.map_nil, List.length_cons, List.length_nil, Option.map_some, Option.map_none, Option.bind_some, Option.bind_none, at_app0, at_appk, set_app0, set_appk, take_app0, take_appk, at_one, set_one, take_one, List.append_assoc, List.cons_append, List.nil_append, List.append_nil, Bool.not_true, Bool.not_false, Bool.and_true, Bool.true_and, Bool.or_true, Bool.true_or, Bool.false_or, Bool.or_false, Bool.and_false, Bool.false_and, decide_true, decide_false, if_true, if_false, ite_true, ite_false, List.replicate, gList, gTup, neD_bb, eqT, bne_self_eq_false, b_tf, b_ft]
   | _ => simp [dep] at d0
end
end Vz
namespace Vz
open PySem PySem.Spec PyProof.Rows L2
mutual
theorem eqT_refl : ∀ {d : D}, okD d = true → eqT d d = true
 | .none, _ => rfl
 | .bool b, _ => by simp [eqT]
 | .int i, _ => by simp [eqT]
 | .str x, _ => by simp [eqT]
 | .list xs, h => by
  show eqTs xs xs = true
  exact eqTs_refl (Bool.and_eq_true_iff.mp h).1
 | .tup _ xs, h => by
  show eqTs xs xs = true
  exact eqTs_refl (Bool.and_eq_true_iff.mp h).1
theorem eqTs_refl : ∀ {ds : List D}, okDs ds = true → eqTs ds ds = true
 | [], _ => rfl
 | x :: xs, h => by
  obtain ⟨h1, h2⟩:=Bool.and_eq_true_iff.mp h
  show (eqT x x && eqTs xs xs) = true
  rw [eqT_refl h1, eqTs_refl h2]
  rfl
end
theorem draw_okU {self : List W → Sto → R W} {m : Nat} {x : C} {n : Int} (h : SrcOk (m + 1) x) (hn : 0 < n) (hn2 : n ≤ 10 ^ 7) :
  ∃ r y, (∀ rest, runF 4 false (bDraw self) [.loc 0 0, .dat (.int n)] (x :: rest) = .ok (.dat (.int r)) (y :: rest)) ∧ 0 ≤ r ∧ r < n ∧ SrcOk m y:=by
 obtain ⟨a, b, c, rfl, h1, h2, h3, h4⟩:=h
 by_cases ha : 0 < a
 ·exact ⟨_, _, fun rest => draw_old ha hn hn2, Int.emod_nonneg _ (by omega), Int.emod_lt_of_pos _ hn, a / n, b, c, rfl, h1, h2, h3, by omega⟩
 ·exact ⟨_, _, fun rest => draw_new ha h1 h2 h3 (by omega) hn hn2, Int.emod_nonneg _ (by omega), Int.emod_lt_of_pos _ hn, a, b, c + 1, rfl, h1, h2, by omega, by omega⟩
theorem run_dat' {m : Nat} {c : Bool} {fb : FS} {ws : List W} {S S' : Sto} {d : D} (h : fb (ws.map some ++ List.replicate (m - ws.length) none) S = .rt (.dat d) S') : runF m c fb ws S = .ok (.dat d) (S'.take S.length):=by
 unfold runF
 rw [h]
 rfl
theorem cut_nod {xs : List D} {lo hi : Option Int} : cutD lo hi (.tup .nod xs) = some (.tup .nod (cutL xs lo hi)):=by
 show some (match whole xs.length lo hi with | true => D.tup .nod xs | false => D.tup .nod (cutL xs lo hi)) = _
 cases h : whole xs.length lo hi with
 | false => rfl
 | true =>
  obtain ⟨h1, h2⟩:=Bool.and_eq_true_iff.mp h
  have h1:=of_decide_eq_true h1
  have h2:=of_decide_eq_true h2
  unfold cutL
  rw [h1, h2]
  simp
end Vz
namespace Vz
open PySem PySem.Spec PyProof.Rows L2
theorem div_guardB {i j : Int} (h : 0 < j) (h2 : j ≤ 10 ^ 10) : divI (.int i) (.int j) = some (.int (i / j)):=by
 have : j.natAbs.log2 < 9000:=by
  have h3 : j.natAbs ≤ 10 ^ 10:=by omega
  have h4 : j.natAbs ≠ 0:=by omega
  have h5 : j.natAbs.log2 < 40:=(Nat.log2_lt h4).mpr (Nat.lt_of_le_of_lt h3 (by decide))
  omega
 refine gI_ok ?_
 rw [decide_eq_true h, decide_eq_true this]
 rfl
theorem SrcOk.less {m k : Nat} {x : C} (h : SrcOk m x) (hk : k ≤ m) : SrcOk k x:=by
 obtain ⟨a, b, c, q, q1, q2, q3, q4⟩:=h
 exact ⟨a, b, c, q, q1, q2, q3, by omega⟩
theorem draw_oldB {self : List W → Sto → R W} {a b c n : Int} {rest : Sto} (ha : 0 < a) (hn : 0 < n) (hn2 : n ≤ 10 ^ 10) :
  runF 4 false (bDraw self) [.loc 0 0, .dat (.int n)] (srcC a b c :: rest) = .ok (.dat (.int (a % n))) (srcC (a / n) b c :: rest):=by
 suffices e : bDraw self [some (.loc 0 0), some (.dat (.int n)), none, none] (srcC a b c :: rest) = .rt (.dat (.int (a % n))) (srcC (a / n) b c :: rest) by
  have r:=run_dat' (m:=4) (c:=false) (fb:=bDraw self) (ws:=[.loc 0 0, .dat (.int n)]) e
  simpa using r
 have t1 : gtI (.int a) (.int 0) = some (.bool true):=congrArg (fun b => some (D.bool b)) (decide_eq_true ha)
 have i0 : ∀ z : Int, ixD (.list [.int z, .int b, .int c]) (.int 0) = some (.int z):=fun _ => rfl
 have m1:=mod_guard (i:=a) hn
 have d1:=div_guardB (i:=a) hn hn2
 have q : ∀ u : Int, putC (.lst [.int a, .int b, .int c]) (.int 0) (.int u) = some (.lst [.int u, .int b, .int c]):=fun _ => rfl
 generalize a / n = u at d1 ⊢
 generalize a % n = v at m1 ⊢
 unfold srcC
 unfold bDraw
 simp only [sSeq, sSet, sIf, sRet, sRetN, sExpr, sNil, sPass, sAug, sPar, sAsg, sBreak, sCont, sSetL, Out.andThen, R.then, R.bind, R.lift, R.of, R.get, R.noX, fVar, fC, fBin, fB, asB, fAnd, fOr, fNot, fV, fAndV, fOrV, fNotV, fIf, fChain, aNil, aCons, rds, rd2, rd, frd, frds, dats, fTup, fTupK, fFrz, fCell, lDisp, lCat, fCall, lCall, fNo, fYesI, asI, fSl, fFz, fz, fMeth, fMeth0, LstW, lstC, fIndex, fIsi, fNeg, fRev, lRange, fApp, fYes, oName, onNil, onCons, oTup, oSub, stB, cName, cnNil, cnCons, cTup, wipeR, one, two, onL, ne1, bodyF, lcB, iSeq, iArgs, iFr, walk, Wk.ls, seqOf, ifO, cond, cutW, List.getElem?_cons_zero, List.getElem?_cons_succ, List.getElem?_nil, List.take_succ_cons, List.take_zero, List.take_nil, Nat.zero_add, List.set_cons_zero, List.set_cons_succ, List.set_nil, List.map_cons, List.map_nil, List.length_cons, List.length_nil, Option.map_some, Option.map_none, Option.bind_some, Option.bind_none, at_app0, at_appk, set_app0, set_appk, take_app0, take_appk, at_one, set_one, take_one, List.append_assoc, List.cons_append, List.nil_append, List.append_nil, Bool.not_true, Bool.not_false, Bool.and_true, Bool.true_and, Bool.or_true, Bool.true_or, Bool.false_or, Bool.or_false, Bool.and_false, Bool.false_and, decide_true, decide_false, if_true, if_false, ite_true, ite_false, List.getElem?_cons_zero, List.getElem?_cons_succ, List.set_cons_zero, List.set_cons_succ, i0, t1, m1, d1, q, Option.bind_some, Option.map_some]
def DrawU (G : List W → Sto → R W) (x : C) (n : Int) (r : Int) (y : C) : Prop:=∀ rest, G [.loc 0 0, .dat (.int n)] (x :: rest) = .ok (.dat (.int r)) (y :: rest)
theorem draw_mid {G : List W → Sto → R W} {a b c n r1 r2 : Int} {y z : C} (ha : ¬ 0 < a) (hn : 10 ^ 7 < n) (h1 : DrawU G (srcC a b c) (10 ^ 7) r1 y) (h2 : DrawU G y (n / 10 ^ 7 + 1) r2 z) (hr : 0 ≤ r2 ∧ r2 < 2 ^ 60) :
  DrawU (runF 4 false (bDraw G)) (srcC a b c) n ((r1 + 10 ^ 7 * r2) % n) z:=by
 intro rest
 suffices e : bDraw G [some (.loc 0 0), some (.dat (.int n)), none, none] (srcC a b c :: rest) = .rt (.dat (.int ((r1 + 10 ^ 7 * r2) % n))) (z :: rest) by
  have r:=run_dat' (m:=4) (c:=false) (fb:=bDraw G) (ws:=[.loc 0 0, .dat (.int n)]) e
  simpa using r
 have t1 : gtI (.int a) (.int 0) = some (.bool false):=congrArg (fun b => some (D.bool b)) (decide_eq_false ha)
 have i0 : ixD (.list [.int a, .int b, .int c]) (.int 0) = some (.int a):=rfl
 have p1 : powI (.int 10) (.int 7) = some (.int (10 ^ 7)):=rfl
 have t2 : gtI (.int n) (.int (10 ^ 7)) = some (.bool true):=congrArg (fun b => some (D.bool b)) (decide_eq_true (by omega))
 have d1 : divI (.int n) (.int (10 ^ 7)) = some (.int (n / 10 ^ 7)):=div_guard (by decide) (by decide)
 have a1 : addD (.int (n / 10 ^ 7)) (.int 1) = some (.int (n / 10 ^ 7 + 1)):=rfl
 have m1 : mulD (.int (10 ^ 7)) (.int r2) = some (.int (10 ^ 7 * r2)):=mul_guard (.inr ⟨by omega, by omega⟩)
 have a2 : addD (.int r1) (.int (10 ^ 7 * r2)) = some (.int (r1 + 10 ^ 7 * r2)):=rfl
 have m2 : modI (.int (r1 + 10 ^ 7 * r2)) (.int n) = some (.int ((r1 + 10 ^ 7 * r2) % n)):=mod_guard (by omega)
 have g1:=h1 rest
 have g2:=h2 rest
 generalize n / 10 ^ 7 + 1 = n2 at a1 g2
 generalize n / 10 ^ 7 = n1 at d1 a1
 generalize (r1 + 10 ^ 7 * r2) % n = v at m2 ⊢
 generalize r1 + 10 ^ 7 * r2 = v2 at a2 m2
 generalize (10 : Int) ^ 7 * r2 = v3 at m1 a2
 generalize (10 : Int) ^ 7 = M at p1 t2 d1 m1 g1
 unfold srcC at g1 ⊢
 unfold bDraw
 simp only [sSeq, sSet, sIf, sRet, sRetN, sExpr, sNil, sPass, sAug, sPar, sAsg, sBreak, sCont, sSetL, Out.andThen, R.then, R.bind, R.lift, R.of, R.get, R.noX, fVar, fC, fBin, fB, asB, fAnd, fOr, fNot, fV, fAndV, fOrV, fNotV, fIf, fChain, aNil, aCons, rds, rd2, rd, frd, frds, dats, fTup, fTupK, fFrz, fCell, lDisp, lCat, fCall, lCall, fNo, fYesI, asI, fSl, fFz, fz, fMeth, fMeth0, LstW, lstC, fIndex, fIsi, fNeg, fRev, lRange, fApp, fYes, oName, onNil, onCons, oTup, oSub, stB, cName, cnNil, cnCons, cTup, wipeR, one, two, onL, ne1, bodyF, lcB, iSeq, iArgs, iFr, walk, Wk.ls, seqOf, ifO, cond, cutW, List.getElem?_cons_zero, List.getElem?_cons_succ, List.getElem?_nil, List.take_succ_cons, List.take_zero, List.take_nil, Nat.zero_add, List.set_cons_zero, List.set_cons_succ, List.set_nil, List.map_cons, List.map_nil, List.length_cons, List.length_nil, Option.map_some, Option.map_none, Option.bind_some, Option.bind_none, at_app0, at_appk, set_app0, set_appk, take_app0, take_appk, at_one, set_one, take_one, List.append_assoc, List.cons_append, List.nil_append, List.append_nil, Bool.not_true, Bool.not_false, Bool.and_true, Bool.true_and, Bool.or_true, Bool.true_or, Bool.false_or, Bool.or_false, Bool.and_false, Bool.false_and, decide_true, decide_false, if_true, if_false, ite_true, ite_false, List.getElem?_cons_zero, List.getElem?_cons_succ, List.set_cons_zero, List.set_cons_succ, List.length_cons, List.length_nil, Nat.reduceAdd, decide_true, i0, t1, p1, t2, d1, a1, g1, g2, m1, a2, m2, Option.bind_some, Option.map_some]
theorem draw_big {self : List W → Sto → R W} {m : Nat} {x : C} {n : Int} (h : SrcOk (m + 2) x) (hn : 0 < n) (hn2 : n ≤ 10 ^ 10) :
  ∃ r y, DrawU (runF 4 false (bDraw (runF 4 false (bDraw self)))) x n r y ∧ 0 ≤ r ∧ r < n ∧ SrcOk m y:=by
 by_cases h7 : n ≤ 10 ^ 7
 ·obtain ⟨r, y, e, h1, h2, h3⟩:=draw_okU (self:=runF 4 false (bDraw self)) (m:=m + 1) h hn h7
  exact ⟨r, y, e, h1, h2, h3.less (by omega)⟩
 ·obtain ⟨a, b, c, rfl, q1, q2, q3, q4⟩:=id h
  by_cases ha : 0 < a
  ·exact ⟨_, _, fun rest => draw_oldB ha hn hn2, Int.emod_nonneg _ (by omega), Int.emod_lt_of_pos _ hn, a / n, b, c, rfl, q1, q2, q3, by omega⟩
  ·obtain ⟨r1, y, e1, b1, b2, hy⟩:=draw_okU (self:=self) (n:=10 ^ 7) (m:=m + 1) h (by decide) (by decide)
   have hq : 0 < n / 10 ^ 7 + 1:=by omega
   obtain ⟨r2, z, e2, b3, b4, hz⟩:=draw_okU (self:=self) (n:=n / 10 ^ 7 + 1) (m:=m) hy hq (by omega)
   exact ⟨_, z, draw_mid ha (by omega) e1 e2 ⟨b3, by omega⟩, Int.emod_nonneg _ (by omega), Int.emod_lt_of_pos _ hn, hz⟩
end Vz
namespace Vz
open PySem PySem.Spec PyProof.Rows L2
section
variable {rest : Sto} {y c c' : C}
end
theorem flats_ints : ∀ xs : List Int, flats (xs.map D.int) = some (xs.map V.int)
 | [] => rfl
 | x :: xs => by
  show (flatD (.int x)).bind _ = _
  rw [show flatD (.int x) = some (V.int x) from rfl, Option.bind_some, flats_ints xs]
  rfl
theorem inV_ints {p : Int} : ∀ xs : List Int, inV (.int p) (xs.map V.int) = decide (p ∈ xs)
 | [] => by simp [inV]
 | x :: xs => by
  have ih:=inV_ints (p:=p) xs
  unfold inV at ih ⊢
  rw [List.map_cons, List.any_cons, ih]
  by_cases h : x = p
  ·subst h
   simp [eqV]
  ·have h' : ¬ p = x:=fun z => h z.symm
   simp [eqV, h, h']
theorem inD_seq {neg : Bool} {p : Int} {xs : List Int} {d : D} (h : seqOf d = some (xs.map D.int)) : inD neg (.int p) d = some (.bool (xor neg (decide (p ∈ xs)))):=by
 unfold inD orD inD1
 rw [h]
 show (match (inF (.int p) (xs.map D.int)).map fun b => D.bool (xor neg b) with
  | some z => some z
  | none => _) = _
 unfold inF
 rw [show flatD (.int p) = some (V.int p) from rfl, Option.bind_some, flats_ints, Option.bind_some, inV_ints]
 rfl
end Vz
namespace Vz
open PySem PySem.Spec PyProof.Rows L2
def DrawB (G : List W → Sto → R W) : Prop:=∀ (m : Nat) (x : C) (n : Int), SrcOk (m + 2) x → 0 < n → n ≤ 10 ^ 10 → ∃ r y, DrawU G x n r y ∧ 0 ≤ r ∧ r < n ∧ SrcOk m y
theorem drawB_of {self : List W → Sto → R W} : DrawB (runF 4 false (bDraw (runF 4 false (bDraw self)))):=fun _ _ _ h h1 h2 => draw_big h h1 h2
end Vz
namespace Vz
open PySem PySem.Spec PyProof.Rows L2
end Vz
namespace Vz
open PySem PySem.Spec PyProof.Rows L2
abbrev Free (A : Around) : Prop:=A.guards = some []
structure FnK (P : Program) (w : World) (K : PySem.W.Frag) (mg : Str → Option Value) (base : Heap) (CX : CXT) (k : Nat) (f : Addr) (fd : FuncData) (ps : List Str) (sp : Sp) : Prop where
 len : ∀ ws G R X, sp ws G R X → ws.length = ps.length
 go : ∀ (B : Around) (out : List PySem.Env) (t : Shared) (G : Hp) (as : Args) (bs : List Value) (ws : List V) (R : VK) (X : XK), Room k B → Free B → Env0 P w K mg base B out t G → BindsTo t fd as (ps.zip bs) → Vals ws bs → sp ws G R X →
  codeAny (model P w) B (.call (.ref f) as) (CR CX out P w G t R X) t
section
variable {P : Program} {w : World} {K : PySem.W.Frag} {mg : Str → Option Value} {base : Heap} {CX : CXT} {j k : Nat} {f : Addr} {fd : FuncData} {ps : List Str} {sp : Sp}
theorem FnK.of (F : FnOk P w K mg base CX k f fd ps sp) : FnK P w K mg base CX k f fd ps sp:=⟨F.len, fun B out t G as bs ws R X hr _ => F.run B out t G as bs ws R X hr⟩
theorem FnK.mono (F : FnK P w K mg base CX j f fd ps sp) (h : j ≤ k) : FnK P w K mg base CX k f fd ps sp:=⟨F.len, fun B out t G as bs ws R X hr => F.go B out t G as bs ws R X (hr.mono h)⟩
theorem fnK_of {name qual : Str} {params : Arguments} {body : List Stmt} {scope : Scope} {dV kV doc pm cdv ct oc : Value} {an od : Option Addr} {osl : Array (Option Value)} {N : List Str}
  (hl : K.lookup f = some ⟨oc, od, .func (PySem.W.fnOf name qual params body scope dV kV doc pm an cdv ct), osl⟩) (hc : PySem.W.codeIn K cdv qual = true) (S : FnScope N ps scope) (hn : ∀ ws G R X, sp ws G R X → ws.length = ps.length)
  (hbd : ∀ (B : Around) (out : List PySem.Env) (t : Shared) (G : Hp) (ws : List V) (R : VK) (X : XK), Room k (B.deeper (envOfC qual scope t.heap.objs.size f cdv)) → Free B → sp ws G R X →
   ∃ u, PSs (cxOf CX P w K mg base N qual scope f cdv B out t G X) body u ∧ u { nx:=fun _ G' => R .non G', rt:=R } (start N ws) G) :
  FnK P w K mg base CX (k + 1) f (PySem.W.fnOf name qual params body scope dV kV doc pm an cdv ct) ps sp:=by
 refine ⟨hn, fun B out t G as bs ws R X hr hfree e0 hb r hsp => ?_⟩
 have hlen:=hn _ _ _ _ hsp
 have kin : K.In t.heap:=e0.mod.kin.keeps fun b o q => (e0.bs b o q).1
 have nol : t.heap.NoLimit:=e0.mod.nolimit.keeps fun b o q => (e0.bs b o q).1
 have kinds : ∀ q ∈ ps.zip bs, scope.names.lookup q.1 = some .local ∨ (scope.names.lookup q.1 = some .cell ∧ ((cellsFrom (t.heap.objs.size + 1) scope.names []).lookup q.1).isSome = true):=by
  intro q hq
  rcases S.par q.1 (List.of_mem_zip (a:=q.1) (b:=q.2) hq).1 with z | z
  ·exact .inl z
  ·exact .inr ⟨z, PySem.W.cellsFrom_some _ _ _ (.inl z)⟩
 refine codeAny_call_function hr.depth (kin _ _ hl) rfl S.co S.gen rfl (PySem.W.codeRec_of kin hc) (hb _ _ _ _ ?_)
 refine wpAny_newFunctionEnv_cells S.kind kinds fun env henv t1 x => ?_
 subst henv
 refine ⟨nol.keeps x.toInCall.keep, codeAny_func ?_⟩
 obtain ⟨u, hu, hq⟩:=hbd B out t G ws R X (hr.deeper _) hfree hsp
 have J0 : Inv (cxOf CX P w K mg base N qual scope f cdv B out t G X) [] (start N ws) G t1:=inv_start S hr.hd e0 hlen r x
 refine wpAny_mono (hu.run [] t1 (start N ws) G _ J0 hq) (fun fl t' hs => ?_) fun _ _ hs => hs
 have done : ∀ {τ : L2.St} {G' : Hp} {v : V} {z : Value}, Inv (cxOf CX P w K mg base N qual scope f cdv B out t G X) [] τ G' t' → RelV v z → R v G' → CE out P w G t R z t' :=
  fun {τ G' v z} J rv q => ⟨v, G', J.os, J.bare, J.base, J.hok, rv, q⟩
 cases fl with
 | ret z =>
  obtain ⟨v, τ, G', J, rv, q⟩:=hs
  exact done J rv q
 | next =>
  obtain ⟨τ, G', J, q⟩:=hs
  exact done (v:=V.non) (z:=Value.none) J rfl q
 | brk =>
  obtain ⟨_, _, _, q⟩:=hs
  exact q.elim
 | cont =>
  obtain ⟨_, _, _, q⟩:=hs
  exact q.elim
end
section
variable {X : Cx} {CX : CXT} {k : Nat} {f : Addr} {fd : FuncData} {ps ks : List Str} {sp : Sp} {E : L2.St → XK} {x : Str} {p pos : Pos} {e : Expr} {es : List Expr} {t tk : TA} {kws : List Keyword}
theorem goK {pins : List (Addr × Obj)} {σ : L2.St} {H : Hp} {s : Shared} {Q : VK} {us as bs : List Value} {vs : List V} (F : FnK X.prog X.w X.K X.mg X.base CX k f fd ps sp) (hr : Room k X.A) (hf : Free X.A) (hx : PassesAt CX X σ (E σ)) (I : Inv X pins σ H s)
  (hb : bs.length = ps.length → BindsTo s fd ⟨us, ks.zip as⟩ (ps.zip bs)) (r : Vals vs bs) (h : sp vs H Q (E σ)) : wpAny (model X.prog X.w) X.A (call (.ref f) us (ks.zip as)) (EP X pins σ Q) X.xe s:=by
 have hl : bs.length = ps.length:=r.length.symm.trans (F.len _ _ _ _ h)
 refine wpAny_call (codeAny_mono (F.go X.A X.stack s H ⟨us, ks.zip as⟩ bs vs Q (E σ) hr hf I.env0 (hb hl) r h) fun z s' hq => ?_)
 match z, hq with
 | .error er, hq => exact hx pins H s er s' I hq
 | .ok (.ret u), hq => exact I.after hq
 | .ok .next, hq => exact hq.elim
 | .ok .brk, hq => exact hq.elim
 | .ok .cont, hq => exact hq.elim
def tCallQ (sp : Sp) (E : L2.St → XK) (t : TA) : TE:=fun σ H Q => t σ H fun vs H1 => sp vs H1 Q (E σ)
theorem pe_callQ (F : FnK X.prog X.w X.K X.mg X.base CX k f fd ps sp) (hr : Room k X.A) (hf : Free X.A) (hg : Gl X x) (hm : X.mg x = some (.ref f)) (hk : PySem.W.keepIn X.K (.ref f) = true) (hb : Binds X.K fd ps []) (hx : ∀ σ, PassesAt CX X σ (E σ)) (ha : PA X (e :: es) t)
  (hdb : (x == ("__debug__" : Str)) = false:=by decide) (he : starEach (e :: es) X.env = (false, eval e X.env) :: starEach es X.env:=by rfl) (hpl : (backTo pos (starEach es X.env)).any (·.1) = false:=by rfl) : PE X (.Call (.Name x p) (e :: es) [] pos) (tCallQ sp E t):=by
 refine ⟨fun pins s σ H Q I h => wpAny_Call_Name_kw (ld_glob I hg hm ?_ hdb)⟩
 refine PySem.W.callWith_K (h₀:=X.base) I.ok.mod.kin hk (thn (ha.run pos pins s σ H _ I h) ?_) he hpl
 rintro us s1 ⟨vs, H1, I1, r, q⟩
 refine ⟨I1.kIn, goK (ks:=[]) (as:=[]) F hr hf (hx σ) I1 (fun hl => ?_) r q⟩
 have b:=hb s1 us I1.kIn (by simpa using hl)
 simpa using b
theorem pe_callQK {g : List Value → List Value} {gV : List V → List V} (F : FnK X.prog X.w X.K X.mg X.base CX k f fd ps sp) (hr : Room k X.A) (hf : Free X.A) (hg : Gl X x) (hm : X.mg x = some (.ref f)) (hk : PySem.W.keepIn X.K (.ref f) = true)
  (hb : ∀ (s : Shared) (as : List Value), X.K.In s.heap → (g as).length = ps.length → BindsTo s fd ⟨[], ks.zip as⟩ (ps.zip (g as))) (hrel : ∀ {vs : List V} {us : List Value}, Vals vs us → Vals (gV vs) (g us)) (hx : ∀ σ, PassesAt CX X σ (E σ)) (hkw : PK X kws tk)
  (hall : (backToKw pos (keywordEach kws X.env)).all (·.1.isSome) = true:=by rfl) (hks : (backToKw pos (keywordEach kws X.env)).filterMap (·.1) = ks:=by rfl)
  (hdb : (x == ("__debug__" : Str)) = false:=by decide) (hpl : ((backTo pos (starEach [] X.env)).any (·.1) || (backToKw pos (keywordEach kws X.env)).any (·.1.isNone)) = false:=by rfl) :
  PE X (.Call (.Name x p) [] kws pos) (fun σ H Q => tk σ H fun vs H1 => sp (gV vs) H1 Q (E σ)):=by
 refine ⟨fun pins s σ H Q I h => wpAny_Call_Name_kw (ld_glob I hg hm ?_ hdb)⟩
 refine PySem.W.callWith_KW0 (h₀:=X.base) I.ok.mod.kin hk hall (thn (hkw.run pos pins s σ H _ I h) ?_) hpl
 rintro as s1 ⟨vs, H1, I1, r, q⟩
 refine ⟨I1.kIn, ?_⟩
 rw [hks]
 exact goK (us:=[]) F hr hf (hx σ) I1 (fun hl => hb s1 as I1.kIn hl) (hrel r) q
end
section
variable {T : Tb} {X : Cx} {Wx : WX} {k : Nat} {ga : FA} {e : Expr} {es : List Expr} {p pos : Pos}
end
section
variable {P : Program} {w : World} {K : PySem.W.Frag} {mg mb : Str → Option Value} {CX : CXT} {k : Nat} {fa a : Addr} {fd : FuncData} {x : Str} {sp : Sp} {t : Shared} {us : List Value} {ns : List Int}
def LawEnd (t : Shared) (r : Result) (t' : Shared) : Prop:=r = .ok (.ret (.bool true)) ∧ OldK t.heap t'.heap ∧ t'.os = t.os ∧ AllBare t'.gens
theorem law_from {H : Hp} (kin : K.In t.heap) (gns : t.heap.Ns mainGlobals mg) (bns : t.heap.Ns builtinsNs mb) (bok : ∀ x : Str, x ≠ "__name__" → mb x = bootBuiltins x) (nol : t.heap.NoLimit) (ng : t.gens = #[])
  (hs : t.heap.get? a = some { cls:=.type "list", data:=.seq us.toArray }) (hr : Room k callerA) (F : ∀ base : Heap, K.In base → base.Ns mainGlobals mg → FnK P w K mg base CX k fa fd [x] sp) (hbind : ∀ (s : Shared) (u : Value), BindsTo s fd ⟨[u], []⟩ [(x, u)])
  (hcx : ∀ H e s', CX [] H t (fun _ _ _ => False) e s' → False) (only : Only H) (hok : HOk P w H t.heap) (here : ∀ b, H b ≠ none → b = a) (nok : H a ≠ none → K.lookup a = none) (hsp : sp [.ref a] H (fun v _ => v = .bl true) fun _ _ _ => False) :
  codeAny (model P w) callerA (.call (.ref fa) ⟨[.ref a], []⟩) (LawEnd t) t:=by
 have isA : ∀ {b : Addr} {u : HO}, H b = some u → b = a:=fun {b u} q => here b fun z => by
  rw [q] at z
  cases z
 have tb : ∀ {b : Addr} {o : Obj}, t.heap.get? b = some o → H b = none → (hidT t.heap H).get? b = some o:=fun q n => hidT_get q n
 have dct : ∀ {b : Addr} {o : Obj} {es : Array DictEntry} {ep : Nat}, t.heap.get? b = some o → o.data = .dict es ep → H b = none:=by
  intro b o es ep q d
  cases z : H b with
  | none => rfl
  | some u =>
   rw [isA z, hs] at q
   cases q
   exact nomatch (show Data.seq us.toArray _ = Data.dict es ep from d)
 have nsb : ∀ {b : Addr} {m : Str → Option Value}, t.heap.Ns b m → (hidT t.heap H).Ns b m:=by
  rintro b m ⟨o, es, ep, q, d, r⟩
  exact ⟨o, es, ep, tb q (dct q d), d, r⟩
 have kb : K.In (hidT t.heap H):=by
  intro b o q
  refine tb (kin b o q) ?_
  cases z : H b with
  | none => rfl
  | some u =>
   have e:=isA z
   rw [e] at z q
   rw [nok (by rw [z]; exact nofun)] at q
   cases q
 have hm : Mod K mg (hidT t.heap H):=⟨kb, nsb gns, ⟨mb, nsb bns, bok⟩, let ⟨m, h1, h2⟩:=nol; ⟨m, nsb h1, h2⟩⟩
 have none0 : ∀ b : Addr, b ∉ ([] : List Addr):=fun b z => nomatch z
 have e0 : Env0 P w K mg (hidT t.heap H) callerA [] t H:=⟨rfl, hm, fun b o q => of_hidT q, Nat.le_of_eq (hidT_size _ _), trivial, fun b z => (none0 b z).elim, hok, .of_eq ng⟩
 refine codeAny_mono ((F _ kb (nsb gns)).go callerA [] t H ⟨[.ref a], []⟩ [.ref a] [.ref a] _ _ hr rfl e0 (hbind t (.ref a)) (.cons rfl .nil) hsp) fun r t' h => ?_
 match r, h with
 | .error e, h => exact (hcx H e t' h).elim
 | .ok .next, h => exact h.elim
 | .ok .brk, h => exact h.elim
 | .ok .cont, h => exact h.elim
 | .ok (.ret u), h =>
  obtain ⟨v, H', os, bare, un, hok', ru, q⟩:=h
  cases (show v = V.bl true from q)
  obtain rfl : u = Value.bool true:=ru
  refine ⟨rfl, OldK.of_keep fun b o e => ?_, os, bare⟩
  rcases only b with z | ⟨ob, xs, z⟩
  ·exact un.keep b o e z (none0 b) (none0 b)
  ·have e1:=(hok b _ z).1
   have e2:=(hok' b _ (un.frzs b ob _ z)).1
   rw [e] at e1
   cases e1
   exact e2
theorem law_callK (kin : K.In t.heap) (gns : t.heap.Ns mainGlobals mg) (bns : t.heap.Ns builtinsNs mb) (bok : ∀ x : Str, x ≠ "__name__" → mb x = bootBuiltins x) (nol : t.heap.NoLimit) (ng : t.gens = #[])
  (hs : t.heap.get? a = some { cls:=.type "list", data:=.seq us.toArray }) (hi : IntsAre us ns) (hl : ns.length ≤ sizeLine) (hr : Room k callerA) (F : ∀ base : Heap, K.In base → base.Ns mainGlobals mg → FnK P w K mg base CX k fa fd [x] sp)
  (hbind : ∀ (s : Shared) (u : Value), BindsTo s fd ⟨[u], []⟩ [(x, u)]) (hcx : ∀ H e s', CX [] H t (fun _ _ _ => False) e s' → False) (hsp : ∀ H : Hp, Only H → SqL K H a (ns.map V.int) → sp [.ref a] H (fun v _ => v = .bl true) fun _ _ _ => False) :
  codeAny (model P w) callerA (.call (.ref fa) ⟨[.ref a], []⟩) (LawEnd t) t:=by
 have rv:=vals_ints hi
 have go:=fun {H : Hp} (only : Only H) => law_from (H:=H) kin gns bns bok nol ng hs hr F hbind hcx only
 cases hk : K.lookup a with
 | some o =>
  have e:=kin a o hk
  rw [hs] at e
  cases e
  have only : Only (fun _ => none):=fun _ => .inl rfl
  refine go only (fun b u z => nomatch (show (none : Option HO) = some u from z)) (fun b z => (z rfl).elim) (fun z => (z rfl).elim) (hsp _ only (.inr ⟨_, us.toArray, _, hk, rfl, rfl, rfl, ?_, by simpa using rv⟩))
  rw [List.size_toArray, hi.length]
  exact hl
 | none =>
  let H : Hp:=fun b => if b = a then some (.frz { cls:=.type "list", data:=.seq us.toArray } (.lst (ns.map V.int))) else none
  have Ha : ∀ b, b = a → H b = some (.frz { cls:=.type "list", data:=.seq us.toArray } (.lst (ns.map V.int))):=fun b hb => if_pos hb
  have Hn : ∀ b, b ≠ a → H b = none:=fun b hb => if_neg hb
  have only : Only H:=fun b => by
   by_cases hb : b = a
   ·exact .inr ⟨_, _, Ha b hb⟩
   ·exact .inl (Hn b hb)
  refine go only (fun b u z => ?_) (fun b z => ?_) (fun _ => hk) (hsp H only (.inl (.inr ⟨_, Ha a rfl⟩)))
  ·by_cases hb : b = a
   ·rw [Ha b hb] at z
    cases z
    subst hb
    exact ⟨hs, by rw [List.length_map]; exact hl, us, _, rv, hs⟩
   ·rw [Hn b hb] at z
    cases z
  ·by_cases hb : b = a
   ·exact hb
   ·exact (z (Hn b hb)).elim
end
theorem walk_K {l : PySem.W.OpenLaw} {n k : Nat} {q : Program} {loose : List Str} {XP : (Str → Option Value) → Heap → Prop} {YP : World → Heap → Prop} {d : DefRec} {CX : CXT} {x : Str} (hn : l.most = some n) (hn2 : n ≤ sizeLine) (hdf : d.params.defaults = []) (hr : Room k callerA)
  (F : ∀ (w : World) (mg : Str → Option Value) (fa : Addr) (h : Heap), YP w h → h.Ns mainGlobals mg → mg d.name = some (.ref fa) → ∃ (K : PySem.W.Frag) (fd : FuncData) (sp : Sp), K.In h ∧ (∀ (s : Shared) (u : Value), BindsTo s fd ⟨[u], []⟩ [(x, u)]) ∧
    (∀ (H : Hp) (a : Addr) (ns : List Int), ns.length ≤ n → Only H → SqL K H a (ns.map V.int) → sp [.ref a] H (fun v _ => v = .bl true) fun _ _ _ => False) ∧ ∀ base : Heap, K.In base → base.Ns mainGlobals mg → FnK l.prog w K mg base CX k fa fd [x] sp)
  (hcx : ∀ (H : Hp) (s : Shared) (e : Value) (s' : Shared), CX [] H s (fun _ _ _ => False) e s' → False) : PySem.W.WalkO q loose XP YP l.row.toRowW d [] (fun f vs => PySem.call f vs):=by
 refine Att.attach_call hn hdf fun w s0 t mg mb fa o pm cd doc a us ns G Y _ _ _ hmg hs hints hlen hg => ?_
 obtain ⟨K, fd, sp, kin, hb, hsp, hF⟩:=F w mg fa _ Y G.T.g hmg
 exact law_callK kin G.T.g G.T.b G.T.builtins G.T.nolimit hg hs hints (Nat.le_trans hlen hn2) hr hF hb (fun H e s' => hcx H t e s') fun H hO hS => hsp H a ns hlen hO hS
end Vz
namespace Vz
open PySem PySem.Spec PyProof.Rows L2
structure OkK (T : Tb) (P : Program) (w : World) (K : PySem.W.Frag) (mg : Str → Option Value) (base : Heap) (k : Nat) (x : Str) (ps : List Str) (f : List W → Sto → R W) : Prop where
 ex : ∃ fd, FnK P w K mg base (L2.CX P w) k (He.ga K x) fd ps (spV T K ps.length f) ∧ Binds K fd ps [] ∧ ∃ oc od osl, K.lookup (He.ga K x) = some ⟨oc, od, .func fd, osl⟩
 keep : PySem.W.keepIn K (.ref (He.ga K x)) = true
 glo : mg x = some (.ref (He.ga K x))
section
variable {T : Tb} {X : Cx} {Wx : WX} {k n : Nat} {x : Str} {ps ks : List Str} {g : List W → Sto → R W} {ga : FA} {e : Expr} {es : List Expr} {p pos : Pos} {kws : List Keyword}
theorem semE_appQ {K : PySem.W.Frag} {t : TA} (h : SemA T K Wx t ga) : SemE T K Wx (tCallQ (spV T K n g) (WE Wx) t) (fApp n g ga):=semE_app h
theorem je_apK (O : OkK T X.prog X.w X.K X.mg X.base k x ps g) (hr : Room k X.A) (hf : Free X.A) (tk : Takes X Wx) (ha : JA T X Wx (e :: es) ga) (hg : Gl X x:=by rfl)
  (hdb : (x == ("__debug__" : Str)) = false:=by decide) (he : starEach (e :: es) X.env = (false, eval e X.env) :: starEach es X.env:=by rfl) (hpl : (backTo pos (starEach es X.env)).any (·.1) = false:=by rfl) (hn : ps.length = n:=by rfl) :
  JE T X Wx (.Call (.Name x p) (e :: es) [] pos) (fApp n g ga):=by
 subst hn
 obtain ⟨fd, h1, h2, _⟩:=O.ex
 obtain ⟨t, a1, s1⟩:=ha
 exact ⟨_, pe_callQ h1 hr hf hg O.glo O.keep h2 (fun σ => passAt tk σ) a1 hdb he hpl, semE_appQ s1⟩
structure JK (T : Tb) (X : Cx) (Wx : WX) (kws : List Keyword) (f : FA) : Prop where
 ex : ∃ t, PK X kws t ∧ SemA T X.K Wx t f
theorem jk_nil : JK T X Wx [] aNil:=⟨tNil, pk_nil, fun G F A S H σ ρ Q hw hs hp => hp F A H [] (Evl.Ex.refl _) (Pre.refl _) hw .nil⟩
theorem jk_cons {fa : FE} {nm : Option Str} {kp : Pos} (h1 : JE T X Wx e fa) (h2 : JK T X Wx kws ga) : JK T X Wx (⟨nm, e, kp⟩ :: kws) (aCons fa ga):=by
 obtain ⟨t, a1, s1⟩:=h1
 obtain ⟨u, a2, s2⟩:=h2
 refine ⟨_, pk_cons a1 a2, fun G F A S H σ ρ Q hw hs hp => ?_⟩
 refine s1 G F A S H σ ρ _ hw hs (hp.bind fun w S' F' A' H' v e1 p1 w1 r1 hp1 => ?_)
 refine s2 G F' A' S' H' σ ρ _ w1 (hs.mono e1 p1) (hp1.bind fun ws S2 F2 A2 H2 vs e2 p2 w2 r2 hp2 => ?_)
 exact hp2 F2 A2 H2 _ (Evl.Ex.refl _) (Pre.refl _) w2 (.cons (r1.mono e2 p2) r2)
def reord {α : Type} (d : α) (ix : List Nat) (xs : List α) : List α:=match decide (xs.length = ix.length) with
 | true => ix.map fun i => xs.getD i d
 | false => []
theorem reord_vals {ix : List Nat} {vs : List V} {us : List Value} (r : Vals vs us) : Vals (reord .non ix vs) (reord .none ix us):=by
 unfold reord
 rw [r.length]
 cases decide (us.length = ix.length) with
 | false => exact .nil
 | true =>
  have one : ∀ i, RelV (vs.getD i .non) (us.getD i .none):=fun i => by
   rw [List.getD_eq_getElem?_getD, List.getD_eq_getElem?_getD]
   by_cases hi : i < vs.length
   ·obtain ⟨u, hu, ru⟩:=r.get (List.getElem?_eq_getElem hi)
    rw [hu, List.getElem?_eq_getElem hi]
    exact ru
   ·rw [List.getElem?_eq_none (by omega), List.getElem?_eq_none (by rw [← r.length]; omega)]
    rfl
  show Vals (ix.map fun i => vs.getD i .non) (ix.map fun i => us.getD i .none)
  clear r
  induction ix with
  | nil => exact .nil
  | cons i ix ih => exact .cons (one i) ih
theorem paired_map {α β γ : Type} {R : α → β → Prop} {f : γ → α} {g : γ → β} (h : ∀ i, R (f i) (g i)) : ∀ ix : List γ, Paired R (ix.map f) (ix.map g)
 | [] => .nil
 | i :: ix => .cons (h i) (paired_map h ix)
def fAppK (n : Nat) (ix : List Nat) (g : List W → Sto → R W) (f : FA) : FE:=fun ρ S => (f ρ S).bind fun ws S1 => match decide (ws.length = n) with
 | true => g (reord (.dat .none) ix ws) S1
 | false => .bad
theorem je_kwK {qual : Str} {params : Arguments} {body : List Stmt} {scope : Scope} {ix : List Nat} (O : OkK T X.prog X.w X.K X.mg X.base k x ps g) (hF : ∃ fd, FunD X.K x qual params body scope [] [] (He.ga X.K x) fd) (hr : Room k X.A) (hf : Free X.A) (tk : Takes X Wx) (ha : JK T X Wx kws ga)
  (hb : ∀ (kV doc pm : Value) (an : Option Addr) (cdv ct : Value) (as : List Value), as.length = ix.length → bindArgs (PySem.W.fnOf x qual params body scope .none kV doc pm an cdv ct) ⟨[], ks.zip as⟩ = pure (ps.zip (ix.map fun i => as.getD i .none))) (hn : ix.length = ps.length:=by rfl) (hn0 : ps.length = n:=by rfl) (hpos : 0 < n:=by decide)
  (hg : Gl X x:=by rfl) (hall : (backToKw pos (keywordEach kws X.env)).all (·.1.isSome) = true:=by rfl) (hks : (backToKw pos (keywordEach kws X.env)).filterMap (·.1) = ks:=by rfl)
  (hdb : (x == ("__debug__" : Str)) = false:=by decide) (hpl : ((backTo pos (starEach [] X.env)).any (·.1) || (backToKw pos (keywordEach kws X.env)).any (·.1.isNone)) = false:=by rfl) :
  JE T X Wx (.Call (.Name x p) [] kws pos) (fAppK n ix g ga):=by
 subst hn0
 obtain ⟨fd, h1, h2, oc, od, osl, hl⟩:=O.ex
 obtain ⟨fd', F⟩:=hF
 obtain ⟨oc', od', dV, kV, doc, pm, an, cdv, ct, osl', rfl, hl', _, dv, _⟩:=F.ex
 rw [hl] at hl'
 cases hl'
 have hd : dV = .none:=by
  rcases dv with ⟨_, h⟩ | ⟨h, _⟩
  ·exact h
  ·exact (h rfl).elim
 subst hd
 obtain ⟨t, a1, s1⟩:=ha
 refine ⟨_, pe_callQK (g:=reord .none ix) (gV:=reord .non ix) h1 hr hf hg O.glo O.keep (fun s as _ hlen => ?_) reord_vals (fun σ => passAt tk σ) a1 hall hks hdb hpl, ?_⟩
 ·unfold reord at hlen ⊢
  cases hq : decide (as.length = ix.length) with
  | false =>
   rw [hq] at hlen
   simp at hlen
   omega
  | true =>
   have q:=of_decide_eq_true hq
   exact .of_eq (hb kV doc pm an cdv ct as q)
 ·intro G F A S H σ ρ Q hw hs hp
  refine s1 G F A S H σ ρ _ hw hs (hp.bind fun ws S1 F1 A1 H1 vs e1 p1 w1 r1 hp1 => ?_)
  have hlw:=rws_len r1
  cases hq : decide (ws.length = ps.length) with
  | false => rw [hq] at hp1; exact hp1.elim
  | true =>
   rw [hq] at hp1
   have hlen:=of_decide_eq_true hq
   refine ⟨G, F1, A1, S1, reord (.dat .none) ix ws, ?_, w1, ?_, hp1⟩
   ·unfold reord
    rw [decide_eq_true (by omega)]
    simp [hn]
   ·unfold reord
    rw [decide_eq_true (show ws.length = ix.length by omega), decide_eq_true (show vs.length = ix.length by omega)]
    have one : ∀ i, RepW X.K F1 A1 (ws.getD i (.dat .none)) (vs.getD i .non):=fun i => by
     rw [List.getD_eq_getElem?_getD, List.getD_eq_getElem?_getD]
     by_cases hi : i < ws.length
     ·obtain ⟨u, hu, ru⟩:=prd_get r1 (List.getElem?_eq_getElem hi)
      rw [hu, List.getElem?_eq_getElem hi]
      exact ru
     ·rw [List.getElem?_eq_none (by omega), List.getElem?_eq_none (by omega)]
      exact .non
    exact paired_map one ix
theorem ok_defK {P : Program} {w : World} {K : PySem.W.Frag} {mg : Str → Option Value} {base : Heap} {qual : Str} {params : Arguments} {body : List Stmt} {scope : Scope} {N : List Str} {g : FS} (c : Bool) (hF : ∃ fd, FunD K x qual params body scope [] [] (He.ga K x) fd) (hg : mg x = some (.ref (He.ga K x))) (S : FnScope N ps scope)
  (hb : ∀ (kV doc pm : Value) (an : Option Addr) (cdv ct : Value) (us : List Value), us.length = ps.length → bindArgs (PySem.W.fnOf x qual params body scope .none kV doc pm an cdv ct) ⟨us, []⟩ = pure (ps.zip us))
  (h : ∀ (cdv : Value) (A : Around) (outer : List PySem.Env) (s : Shared) (H : Hp) (E : XK), Room k (A.deeper (envOfC qual scope s.heap.objs.size (He.ga K x) cdv)) → Free (A.deeper (envOfC qual scope s.heap.objs.size (He.ga K x) cdv)) → Takes (cxOf (L2.CX P w) P w K mg base N qual scope (He.ga K x) cdv A outer s H E) (fun cls d _ H' => E cls d H') →
   PassesOwn (model P w) (cxOf (L2.CX P w) P w K mg base N qual scope (He.ga K x) cdv A outer s H E).A (cxOf (L2.CX P w) P w K mg base N qual scope (He.ga K x) cdv A outer s H E).env (cxOf (L2.CX P w) P w K mg base N qual scope (He.ga K x) cdv A outer s H E).xe →
   JB T (cxOf (L2.CX P w) P w K mg base N qual scope (He.ga K x) cdv A outer s H E) (fun cls d _ H' => E cls d H') body g) :
  OkK T P w K mg base (k + 1) x ps (runF N.length c g):=by
 obtain ⟨fd, F⟩:=hF
 refine ⟨⟨fd, ?_, F.bindsN hb, look_of F⟩, F.kp, hg⟩
 obtain ⟨oc, od, dV, kV, doc, pm, an, cdv, ct, osl, rfl, hl, hc, _, _⟩:=F.ex
 refine fnK_of hl hc S (fun vs H Q E hsp => ?_) fun A outer s H vs Q E hr hf hsp => ?_
 ·obtain ⟨G, F, A, S, ws, hn, hw, hr, hp⟩:=hsp
  rw [← rws_len hr]
  exact hn
 ·obtain ⟨t, h1, s1⟩:=(h cdv A outer s H E hr hf (L2.takes_of rfl rfl rfl rfl) (L2.passes_of rfl)).ex
  exact ⟨t, h1, semF s1 hsp⟩
end
section
variable {T : Tb} {P : Program} {w : World} {K : PySem.W.Frag} {mg : Str → Option Value} {base : Heap} {k : Nat} {x : Str} {ps : List Str} {f : List W → Sto → R W}
theorem okK_bad {qual : Str} {params : Arguments} {body : List Stmt} {scope : Scope} (hF : ∃ fd, FunD K x qual params body scope [] [] (He.ga K x) fd) (hg : mg x = some (.ref (He.ga K x)))
  (hb : ∀ (kV doc pm : Value) (an : Option Addr) (cdv ct : Value) (us : List Value), us.length = ps.length → bindArgs (PySem.W.fnOf x qual params body scope .none kV doc pm an cdv ct) ⟨us, []⟩ = pure (ps.zip us)) (k : Nat) : OkK T P w K mg base k x ps fBad:=by
 obtain ⟨⟨fd, h1, h2⟩, h3, h4⟩:=ok_bad (T:=T) (P:=P) (w:=w) (base:=base) hF hg hb k
 exact ⟨⟨fd, .of h1, h2⟩, h3, h4⟩
theorem OkK.mono {j k : Nat} (O : OkK T P w K mg base j x ps f) (h : j ≤ k) : OkK T P w K mg base k x ps f:=by
 obtain ⟨⟨fd, h1, h2, h5⟩, h3, h4⟩:=O
 exact ⟨⟨fd, h1.mono h, h2, h5⟩, h3, h4⟩
theorem OkK.at_fd {fd : FuncData} (O : OkK T P w K mg base k x ps f) (h : ∃ oc od osl, K.lookup (He.ga K x) = some ⟨oc, od, .func fd, osl⟩) : FnK P w K mg base (L2.CX P w) k (He.ga K x) fd ps (spV T K ps.length f):=by
 obtain ⟨fd', h1, _, oc, od, osl, h2⟩:=O.ex
 obtain ⟨oc', od', osl', h3⟩:=h
 rw [h2] at h3
 cases h3
 exact h1
theorem fnK_cxl {f : Addr} {fd : FuncData} {sp : Sp} (F : FnK P w K mg base (L2.CX P w) k f fd ps sp) : FnK P w K mg base CXL k f fd ps sp :=
 ⟨F.len, fun A outer s H args us vs Q E hr hf he hb hv hs => codeAny_mono (F.go A outer s H args us vs Q E hr hf he hb hv hs) fun r s' h => by
  match r, h with
  | .ok .next, h => exact h
  | .ok .brk, h => exact h
  | .ok .cont, h => exact h
  | .ok (.ret _), h => exact h
  | .error e, h => exact ⟨P, w, h⟩⟩
end
section
variable {K : PySem.W.Frag} {F H : Hp}
end
section
variable {T : Tb} {X : Cx} {Wx : WX} {ga : FA} {e : Expr} {p pos : Pos}
end
end Vz
namespace Vz
open PySem PySem.Spec PyProof.Rows L2
section
variable {T : Tb} {X : Cx} {Wx : WX} {a b : Expr} {fa fb : FE} {pos : Pos}
end
end Vz
namespace Vz
open PySem PySem.Spec PyProof.Rows L2
open PySem.W PySem.Calls PySem.HandSPX Builtin Builtin.ObjectAttr in
structure BaseF (B newId initId : String) (bm : List Value) : Prop where
 ex : ExcBaseFacts B newId initId bm
 st : ∀ self, refuseLoop self "__setattr__" bm = pure ()
 ob : bm.contains (.type "object") = true
 typ : typeOf (.type B) = pure (.type "type")
section
open PySem.W PySem.Calls PySem.HandSPX Builtin Builtin.ObjectAttr
variable {prog : Program} {w : World} {A : Around} {R : Result → Shared → Prop} {hp : Heap} {g : Array GenState} {d : Drawn} {t : Nat} {os : OsState}
theorem osaB {K : PySem.W.Frag} {B newId initId : String} {bm : List Value} {f : Str} {tk : Tok} {v : Value} {x C : Addr} {fv : Array Value} {cd : ClassData} (bf : BaseF B newId initId bm) (kin : K.In hp) (hx : hp.get? x = some { cls:=.ref C, data:=.fields fv })
  (hcd : PySem.W.clsIn K C = some cd) (hmro : cd.mro = .ref C :: bm) (hdict : cd.hasDict = true) (hno : PySem.W.findIn K (.ref C) f = some none)
  (fin : ∀ h' tk' dx, (∀ b o, b ≠ x → hp.get? b = some o → h'.get? b = some o) → hp.objs.size ≤ dx → dx ≠ x → h'.get? x = some { cls:=.ref C, dict:=some dx, data:=.fields fv } →
   h'.Ns1 dx (fun y => if y = f then some v else none) → R (.ok (.ret .none)) ⟨h', g, d, tk', os⟩) :
  codeAny (model prog w) A (.call (.builtin "object.__setattr__") ⟨[.ref x, .str f tk, v], []⟩) R ⟨hp, g, d, t, os⟩:=by
 have at_ : PySem.W.InstAt hp x { cls:=.ref C, data:=.fields fv } C none:=⟨hx, rfl, rfl, trivial⟩
 have sf:=F.store_object
 have nemp : cd.mro.isEmpty = false:=by rw [hmro]; rfl
 have obj : cd.mro.contains (.type "object") = true:=by
  rw [hmro, List.contains_cons, bf.ob, Bool.or_true]
 have pass : refuseLoop (.ref x) "__setattr__" cd.mro = pure ():=by
  rw [hmro, refuseLoop_ref]
  exact bf.st _
 have xn : x ≠ hp.objs.size:=Nat.ne_of_lt (Heap.lt_size hx)
 have inst : PySem.W.Looks (model prog w) hp (isInstance (.ref x) (.type "object")) true:=by
  refine at_.type.andThen (PySem.W.looks_mroIn kin ?_)
  unfold PySem.W.mroIn
  rw [hcd, Option.bind_some, if_neg (by rw [nemp]; decide), obj]
 refine codeAny_call_builtin sf.slot.plain sf.entry ?_
 refine @PySem.W.check_slot (model prog w) _ _ ⟨hp, g, d, t, os⟩ "object.__setattr__" "object" "__setattr__" (.ref x) [.str f tk, v] [] _ sf.kind sf.split inst ?_ ?_
 ·exact sf.args (.ref x) (.str f tk) v
 have mr : PySem.W.Looks (model prog w) hp (mroOf (.ref C)) cd.mro:=(PySem.W.looks_clsIn kin hcd).andThen .now
 have st3 : PySem.W.Looks (model prog w) hp (storeTaker? none) none:=.now
 have cl : PySem.W.Looks (model prog w) hp (classData C) cd:=PySem.W.looks_clsIn kin hcd
 rw [PySem.W.osa_eq, refuse_eq]
 refine wpAny_bind (wpAny_bind (at_.type.at (wpAny_bind (mr.at ?_))))
 rw [pass]
 refine wpAny_pure (wpAny_bind (at_.type.at ?_))
 refine wpAny_bind ((PySem.W.looks_findIn kin hno).at (wpAny_bind (st3.at ?_)))
 show wpAny _ _ (storeInOwnDict (.ref x) (.ref C) (.str f tk) f v false) _ _ _
 obtain ⟨c1, c2, c3, c4, c5, hd, c6, c7, c8, c9, c10⟩:=cd
 dsimp only at hdict
 subst hdict
 unfold storeInOwnDict ownDictForStores
 repeat (first | with_reducible refine store_in_new ?_ ?_ | with_reducible refine wpAny_loadPart_at hx ?_ | with_reducible refine cl.at ?_ | wp_step)
 ·refine ⟨_, #[], _, (Heap.get?_update_ne _ _ _ _ xn.symm).trans (Heap.get?_push_at rfl rfl), rfl, fun e he => ?_, fun _ => rfl⟩
  simp at he
 ·intro h' tk' n' sb
  have keepx : (hp.push { cls:=.type "dict", data:=.dict #[] }).get? x = some { cls:=.ref C, data:=.fields fv }:=Heap.get?_push_of_some _ hx
  refine fin h' tk' hp.objs.size (fun b o nb q => ?_) (Nat.le_refl _) xn.symm ?_ n'
  ·rw [sb.2 b (Nat.ne_of_lt (Heap.lt_size q)), Heap.get?_update_ne _ _ _ _ nb]
   exact Heap.get?_push_of_some _ q
  ·rw [sb.2 x xn]
   exact Heap.get?_update_self _ keepx rfl
end
structure OeC (K : PySem.W.Frag) (C : Addr) (newId : String) (bm : List Value) : Prop where
 cls : ∃ nm q N bs sn sub ab col dd k0 k1 k2 k3 k5, K.lookup C = some (excClassObj nm q C N bs bm true sn sub ab col dd k0 k1 k2 k3 k5 newId)
 sa : PySem.W.findIn K (.ref C) "__setattr__" = some (some (.builtin "object.__setattr__"))
 exC : PySem.W.subIn K (.ref C) (.type "BaseException") = some true
 tyC : PySem.W.typeIn K (.ref C) = some (.type "type")
 kC : PySem.W.keepIn K (.ref C) = true
section
variable {X : Cx} {pins : List (Addr × Obj)} {σ : L2.St} {H : Hp} {s : Shared} {a C dx : Addr} {f : Str} {y : V} {u : Value} {Q : Unit → Shared → Prop} {E : Value → Shared → Prop} {A : Around} {B newId initId : String} {bm : List Value}
theorem ostB (bf : BaseF B newId initId bm) (T : OeC X.K C newId bm) (I : Inv X pins σ H s) (e : H a = some (exo a C none)) (hno : PySem.W.findIn X.K (.ref C) f = some none) (ry : RelV y u)
  (fin : ∀ dx s', H dx = none → dx ≠ a → Inv X pins σ (upd (upd H dx (exd dx [(f, y)])) a (exo a C (some dx))) s' → Q () s') : wpAny (model X.prog X.w) A (setAttr (.ref a) f u) Q E s:=by
 obtain ⟨nm, q, N, bs, sn, sub, ab, col, dd, k0, k1, k2, k3, k5, hC⟩:=T.cls
 have hcl : PySem.W.clsIn X.K C = some { name:=nm, bases:=bs, mro:=.ref C :: bm, ns:=N, qualname:=q, hasDict:=true, slotNames:=sn, subclasses:=sub, abstract:=ab, collection:=col, hasDel:=false }:=by
  unfold PySem.W.clsIn
  rw [hC]
 obtain ⟨t1, ho⟩:=exo_at I.hok e
 obtain ⟨hp, g, dr, tk0, os⟩:=s
 refine PySem.W.set_plain I.kIn (ox:={ cls:=.ref C, dict:=none, data:=.fields #[.ref t1, .none, .none, .none, .bool false, .none] }) (od:=none) ⟨ho, rfl, rfl, trivial⟩ T.sa ?_
 refine osaB bf I.kIn ho hcl rfl rfl hno fun h' tk' dx kp dn dne hx hn => ?_
 have Hd : H dx = none:=I.hok.fresh dn
 have old : ∀ {b : Addr} {o : Obj}, hp.get? b = some o → b ≠ dx:=fun {b o} z => Nat.ne_of_lt (Nat.lt_of_lt_of_le (Heap.lt_size z) dn)
 have nea : ∀ {b : Addr}, H b = none → b ≠ a:=fun {b} n z => by
  rw [z, e] at n
  cases n
 have un1 : Un X.fs [] H (upd (upd H dx (exd dx [(f, y)])) a (exo a C (some dx))) hp h':={
  keep:=fun b o z n _ _ => kp b o (nea n) z
  slot:=fun b o z n _ _ => ⟨o.slots, kp b o (nea n) z⟩
  free:=fun b o z n _ => by
   rw [upd_ne (nea n), upd_ne (old z)]
   exact n
  there:=fun b o z _ => by
   by_cases hb : b = a
   ·exact ⟨_, hb ▸ hx⟩
   ·exact ⟨o, kp b o hb z⟩
  tups:=fun b xs z => by
   rw [upd_ne (at_ne e z exo_tup), upd_ne (ne_of_none z Hd)]
   exact z
  frzs:=fun b o v z => by
   rw [upd_ne (at_ne e z exo_frz), upd_ne (ne_of_none z Hd)]
   exact z
  tbls:=fun b ps z => by
   refine ⟨#[], ?_⟩
   rw [upd_ne (at_ne e z exo_tbl), upd_ne (ne_of_none z Hd), z]
   simp }
 refine fin dx _ Hd dne (I.un (t':=tk') un1 fun b o z => ?_)
 by_cases hb : b = a
 ·subst hb
  rw [upd_same] at z
  cases z
  exact exo_ok hx
 rw [upd_ne hb] at z
 by_cases hd : b = dx
 ·subst hd
  rw [upd_same] at z
  cases z
  exact exd_ok hn (relO_put (fs:=[]) ry fun _ => trivial)
 rw [upd_ne hd] at z
 refine (I.hok b o z).stay (fun c v hc y => kp c v ?_ y) (fun c hc => ?_) fun c xs hc => ?_
 ·rcases hc with rfl | hc
  ·exact hb
  ·exact at_ne e hc exo_own
 ·rw [upd_ne (at_ne e hc exo_own), upd_ne (ne_of_none hc Hd)]
  exact hc
 ·rw [upd_ne (at_ne e hc exo_tup), upd_ne (ne_of_none hc Hd)]
  exact hc
theorem oinitB {us : List Value} {Q : Value → Shared → Prop} (bf : BaseF B newId initId bm) (T : OeC X.K C newId bm) (I : Inv X pins σ H s) (e : H a = some (exo a C none)) (hl : us.length ≤ sizeLine) (fin : ∀ s', Inv X pins σ H s' → Q .none s') :
  wpAny (model X.prog X.w) A (call (.builtin initId) (.ref a :: us)) Q E s:=by
 obtain ⟨nm, q, N, bs, sn, sub, ab, col, dd, k0, k1, k2, k3, k5, hC⟩:=T.cls
 obtain ⟨t1, ho⟩:=exo_at I.hok e
 obtain ⟨hp, g, dr, tk0, os⟩:=s
 refine wpAny_call (PySem.HandSPX.init_base bf.ex (fun _ => rfl) (I.kIn _ _ hC) ho hl fun h' t2 kp hx => ?_)
 have J:=I.write (t':=tk0) (x:=a) (e:=a) (o:=exo a C none) (by rw [e]; exact trivial) (.inl rfl) kp ⟨_, hx⟩ (exo_ok hx)
 have same : upd H a (exo a C none) = H:=funext fun b => by
  by_cases hb : b = a
  ·rw [hb, upd_same, e]
  ·rw [upd_ne hb]
 rw [same] at J
 exact fin _ J
end
def tBi (K : PySem.W.Frag) (newId : String) (bm : List Value) (ta : TA) : TE:=fun σ H Q => ta σ H fun vs H1 => ∃ (a C : Addr) (ws : List V), vs = .ref a :: ws ∧ ws.length ≤ 1000 ∧ OeC K C newId bm ∧ H1 a = some (exo a C none) ∧ Q .non H1
def tOs (K : PySem.W.Frag) (newId : String) (bm : List Value) (f : Str) (to te : TE) : TS:=fun D σ H => te σ H fun y H1 => to σ H1 fun x H2 => ∃ a C : Addr, x = .ref a ∧ OeC K C newId bm ∧ PySem.W.findIn K (.ref C) f = some none ∧
 H2 a = some (exo a C none) ∧ ∀ dx, H2 dx = none → dx ≠ a → D.nx σ (upd (upd H2 dx (exd dx [(f, y)])) a (exo a C (some dx)))
section
variable {X : Cx} {o e : Expr} {es : List Expr} {to te : TE} {ta : TA} {f : Str} {p p' p1 p2 pos : Pos} {B newId initId : String} {bm : List Value} {nB : Str}
theorem pe_binit {pl : Sem Bool} (bf : BaseF B newId initId bm) (hg : Gl X nB) (hm : X.mg nB = none) (hv : bootBuiltins nB = some (.type B)) (vV : PySem.W.findCls X.K (.type B) (.type "type") "__init__" = some (.val (.builtin initId))) (h0 : PySem.W.handedIn (.builtin initId) = true) (ha : PA X (e :: es) ta)
  (hc : eval (.Call (.Attribute (.Name nB p1) "__init__" p2) (e :: es) [] pos) X.env = (do
   let ov ← eval (.Name nB p1) X.env
   standAt p2.atName
   let (f, first) ← holding [ov] (getMethod ov "__init__" pl)
   callWith pos f first (backTo pos (starEach (e :: es) X.env)) (backToKw pos (keywordEach [] X.env))):=by rfl)
  (hn : nB ≠ "__name__":=by decide) (hd : (nB == ("__debug__" : Str)) = false:=by decide) (hst : Manifest.isStub B = false:=by decide +kernel) (he : starEach (e :: es) X.env = (false, eval e X.env) :: starEach es X.env:=by rfl) (hpl : (backTo pos (starEach es X.env)).any (·.1) = false:=by rfl) :
  PE X (.Call (.Attribute (.Name nB p1) "__init__" p2) (e :: es) [] pos) (tBi X.K newId bm ta):=by
 refine ⟨fun pins s σ H Q I h => ?_⟩
 refine PySem.W.methodCall_KW (ld_blt I hg hm hv ?_ hn hd) hc
 obtain ⟨m, fr⟩:=I.fr
 refine PySem.W.method_type fr I.ok.mod.kin bf.typ hst vV h0 ?_
 show wpAny _ _ (callWith pos (Value.builtin initId) [] (backTo pos (starEach (e :: es) X.env)) []) _ _ _
 refine PyProof.Rows.callWith_method1 (thn (ha.run pos pins _ σ H _ (I.tok _) h) ?_) he hpl
 rintro us s1 ⟨vs, H1, I1, r1, a, C, ws, rfl, hl, T, ea, q⟩
 cases r1 with
 | @cons _ u0 _ ur ra rw' =>
  obtain rfl : u0 = Value.ref a:=ra
  refine oinitB bf T I1 ea ?_ fun s' J => ⟨.non, H1, J, rfl, q⟩
  rw [← Paired.length rw', sizeLine_eq]
  omega
theorem ps_os (bf : BaseF B newId initId bm) (ho : PE X o to) (he : PE X e te) (hs : swapsWith e (some (.Attribute o f p')) pos.line X.env = pure false:=by rfl) : PS X (.Assign [.Attribute o f p'] e pos) (tOs X.K newId bm f to te):=by
 refine ⟨fun pins s σ H D I h => plainObj_wpAny_Assign_Attribute (thn (he.run pins s σ H _ I h) ?_) hs⟩
 rintro v s1 ⟨y, H1, I1, r1, q1⟩
 refine thn (ho.run pins s1 σ H1 _ I1 q1) ?_
 rintro u s2 ⟨x, H2, I2, r2, a, C, rfl, T, hno, ea, q⟩
 obtain rfl : u = Value.ref a:=r2
 exact ostB bf T I2 ea hno r1 fun dx s' n ne J => ⟨σ, _, J, q dx n ne⟩
end
end Vz
namespace Vz
open PySem PySem.Spec PyProof.Rows L2
theorem bf_V : BaseF "ValueError" "ValueError.__new__" "ValueError.__init__" bmV:=⟨F.excBase_ValueError, F.store_ValueError.passes, by decide +kernel, by kernel_rfl⟩
theorem bf_L : BaseF "LookupError" "LookupError.__new__" "LookupError.__init__" bmL:=⟨F.excBase_LookupError, F.store_LookupError.passes, by decide +kernel, by kernel_rfl⟩
theorem bf_R : BaseF "RuntimeError" "RuntimeError.__new__" "RuntimeError.__init__" bmR:=⟨F.excBase_RuntimeError, F.store_RuntimeError.passes, by decide +kernel, by kernel_rfl⟩
theorem bf_O : BaseF "OverflowError" "OverflowError.__new__" "OverflowError.__init__" bmO:=⟨F.excBase_OverflowError, F.store_OverflowError.passes, by decide +kernel, by kernel_rfl⟩
theorem in_V {K : PySem.W.Frag} : PySem.W.findCls K (.type "ValueError") (.type "type") "__init__" = some (.val (.builtin "ValueError.__init__")):=by kernel_rfl
theorem in_L {K : PySem.W.Frag} : PySem.W.findCls K (.type "LookupError") (.type "type") "__init__" = some (.val (.builtin "LookupError.__init__")):=by kernel_rfl
theorem in_R {K : PySem.W.Frag} : PySem.W.findCls K (.type "RuntimeError") (.type "type") "__init__" = some (.val (.builtin "RuntimeError.__init__")):=by kernel_rfl
theorem in_O {K : PySem.W.Frag} : PySem.W.findCls K (.type "OverflowError") (.type "type") "__init__" = some (.val (.builtin "OverflowError.__init__")):=by kernel_rfl
theorem bt_V : bootBuiltins "ValueError" = some (.type "ValueError"):=by kernel_rfl
theorem bt_L : bootBuiltins "LookupError" = some (.type "LookupError"):=by kernel_rfl
theorem bt_R : bootBuiltins "RuntimeError" = some (.type "RuntimeError"):=by kernel_rfl
theorem bt_O : bootBuiltins "OverflowError" = some (.type "OverflowError"):=by kernel_rfl
structure XcSays (K : PySem.W.Frag) (x : XcD) : Prop where
 oe : OeC K (He.ga K x.c) x.newId x.bm
 ini : PySem.W.findIn K (.ref (He.ga K x.c)) "__init__" = some (some (.ref (He.ma K (He.ga K x.c) "__init__")))
 fun_ : PySem.W.typeIn K (.ref (He.ma K (He.ga K x.c) "__init__")) = some (.type "function")
 noat : ∀ f ∈ x.fs, PySem.W.findIn K (.ref (He.ga K x.c)) f = some none
theorem xc_says {K : PySem.W.Frag} {x : XcD} (h : x.ok K = true) : XcSays K x:=by
 obtain ⟨h1, h⟩:=Bool.and_eq_true_iff.mp h
 obtain ⟨h2, h⟩:=Bool.and_eq_true_iff.mp h
 obtain ⟨h3, h⟩:=Bool.and_eq_true_iff.mp h
 obtain ⟨h4, h⟩:=Bool.and_eq_true_iff.mp h
 obtain ⟨h5, h⟩:=Bool.and_eq_true_iff.mp h
 obtain ⟨h6, h⟩:=Bool.and_eq_true_iff.mp h
 obtain ⟨h7, h8⟩:=Bool.and_eq_true_iff.mp h
 refine ⟨⟨?_, He.eqO_ok h2, of_decide_eq_true h3, of_decide_eq_true h4, h5⟩, He.eqO_ok h6, of_decide_eq_true h7, fun f hf => He.eqO_ok (List.all_eq_true.mp h8 f hf)⟩
 show ∃ nm q N bs sn sub ab col dd k0 k1 k2 k3 k5, K.lookup (x.at_ K) = _
 unfold clsOk at h1
 split at h1
 ·rename_i dd cd sl ho
  split at h1
  ·rename_i k0 k1 k2 k3 n k5 hs
   simp only [Bool.and_eq_true, beq_iff_eq, Bool.not_eq_true'] at h1
   obtain ⟨hm, hd, hdel, rfl⟩:=h1
   obtain ⟨nm, bs, mro, ns, qn, hdt, sn, sub, ab, col, del⟩:=cd
   dsimp only at hm hd hdel
   subst hm hd hdel
   obtain ⟨l⟩:=sl
   dsimp only at hs
   subst hs
   exact ⟨nm, qn, ns, bs, sn, sub, ab, col, dd, k0, k1, k2, k3, k5, ho⟩
  ·cases h1
 ·cases h1
section
variable {xs : List XcD} {ck : PySem.W.Frag → Bool} {fa : List He.Fa} {fn : List He.DefD} {K : PySem.W.Frag}
theorem SaysX.d (c : SaysX xs ck fa fn K) : He.SaysD fa fn K:=congrArg Prod.snd c
theorem SaysX.asked (c : SaysX xs ck fa fn K) : ck K = true:=(Bool.and_eq_true_iff.mp (congrArg Prod.fst c)).2
theorem SaysX.x (c : SaysX xs ck fa fn K) (i : Nat) {x : XcD} (h : xs[i]? = some x:=by rfl) : XcSays K x:=by
 have c1 : (xs.all fun x => x.ok K) = true:=(Bool.and_eq_true_iff.mp (congrArg Prod.fst c)).1
 exact xc_says (List.all_eq_true.mp c1 x (List.mem_of_getElem? h))
end
end Vz
namespace Vz
open PySem PySem.Spec PyProof.Rows L2
abbrev selfS : Str:="self"
def spIn (C : Addr) : List Str → Sp
 | [] => fun vs H Q _ => ∃ a, vs = [V.ref a] ∧ H a = some (exo a C none) ∧ Q .non H
 | [f] => fun vs H Q _ => ∃ a y, vs = [V.ref a, y] ∧ H a = some (exo a C none) ∧ ∀ dx, H dx = none → dx ≠ a → Q .non (upd (upd H dx (exd dx [(f, y)])) a (exo a C (some dx)))
 | _ => fun _ _ _ _ => False
theorem spIn_len {C : Addr} : ∀ {fs : List Str} {vs : List V} {H : Hp} {Q : VK} {E : XK}, spIn C fs vs H Q E → vs.length = (selfS :: fs).length
 | [], _, _, _, _, ⟨a, h, _⟩ => by rw [h]; rfl
 | [f], _, _, _, _, ⟨a, y, h, _⟩ => by rw [h]; rfl
 | _ :: _ :: _, _, _, _, _, h => h.elim
structure Xc (P : Program) (w : World) (K : PySem.W.Frag) (mg : Str → Option Value) (base : Heap) (k : Nat) (c : Str) (fs : List Str) : Prop where
 glo : mg c = some (.ref (He.ga K c))
 ex : ∃ (B newId initId : String) (bm : List Value) (fI : Addr) (fd : FuncData), BaseF B newId initId bm ∧ OeC K (He.ga K c) newId bm ∧ PySem.W.findIn K (.ref (He.ga K c)) "__init__" = some (some (.ref fI)) ∧ PySem.W.typeIn K (.ref fI) = some (.type "function") ∧
  FnOk P w K mg base (L2.CX P w) k fI fd (selfS :: fs) (spIn (He.ga K c) fs) ∧ Binds K fd (selfS :: fs) []
section
variable {X : Cx} {C fI : Addr} {k : Nat} {fd : FuncData} {ps : List Str} {sp : Sp} {B newId initId : String} {bm : List Value} {x : Str} {e : Expr} {es : List Expr} {ta : TA} {p pos : Pos}
def tMkB (C : Addr) (sp : Sp) (ta : TA) : L2.St → Hp → XK → Prop:=fun σ H Q => ta σ H fun vs H1 => vs.length ≤ 1000 ∧ ∀ a, H1 a = none → sp (.ref a :: vs) (upd H1 a (exo a C none))
 (fun v H2 => v = .non ∧ ((∃ (d : Addr) (fs : List (Str × V)), H2 a = some (exo a C (some d)) ∧ H2 d = some (exd d fs) ∧ H1 d = none ∧ Q (.ref C) (some d) (upd (del H2 a) d (.xd fs))) ∨ (H2 = upd H1 a (exo a C none) ∧ Q (.ref C) none H1))) (fun _ _ _ => False)
theorem let_go {pins : List (Addr × Obj)} {σ : L2.St} {H1 : Hp} {hp hp2 h2 : Heap} {g1 g2 : Array GenState} {d1 d2 : Drawn} {t1 t2 : Nat} {os1 os2 : OsState} {a : Addr} (I1 : Inv X pins σ H1 ⟨hp, g1, d1, t1, os1⟩) (ha : hp.objs.size ≤ a) (kp : ∀ b o, hp.get? b = some o → hp2.get? b = some o)
  (un : Un (frs X.stack) [] (upd H1 a (exo a C none)) (upd H1 a (exo a C none)) hp2 h2) (hok : HOk X.prog X.w (upd H1 a (exo a C none)) h2) (ho : os2 = os1) (hb : AllBare g2) (hn : H1 a = none) :
  ∃ (t0 : Addr) (G : Heap), Inv X pins σ H1 ⟨G, g2, d2, t2, os2⟩ ∧ (∀ b o, G.get? b = some o → h2.get? b = some o) ∧ G.get? a = none ∧ h2.get? a = some ({ cls:=.ref C, dict:=none, data:=.fields #[.ref t0, .none, .none, .none, .bool false, .none] } : Obj):=by
 obtain ⟨t0, hoe⟩:=exo_at hok upd_same
 obtain ⟨G, in_, out⟩:=restrict h2 fun b => decide (b ≠ a)
 have gk : ∀ b, b ≠ a → G.get? b = h2.get? b:=fun b hb => in_ b (decide_eq_true hb)
 have ga : G.get? a = none:=out a (by simp)
 have nea : ∀ {b : Addr} {o : Obj}, hp.get? b = some o → b ≠ a:=fun {b o} z => Nat.ne_of_lt (Nat.lt_of_lt_of_le (Heap.lt_size z) ha)
 have up : ∀ {b : Addr}, b ≠ a → H1 b = none → upd H1 a (exo a C none) b = none:=fun {b} q n => by rw [upd_ne q]; exact n
 have ned : ∀ {b : Addr} {o : HO}, H1 b = some o → b ≠ a:=fun {b o} z q => by rw [q, hn] at z; cases z
 have U : Un (frs X.stack) [] H1 H1 hp G:={
  keep:=fun b o z n hf hx => (gk b (nea z)).trans (un.keep b o (kp b o z) (up (nea z) n) hf hx)
  slot:=fun b o z n hf hx => by
   rw [gk b (nea z)]
   exact un.slot b o (kp b o z) (up (nea z) n) hf hx
  free:=fun b o z n hx => n
  there:=fun b o z hx => by
   rw [gk b (nea z)]
   exact un.there b o (kp b o z) hx
  tups:=fun b xs z => z
  frzs:=fun b o v z => z
  tbls:=fun b ps z => ⟨#[], by rw [z]; simp⟩ }
 have hok3 : HOk X.prog X.w H1 G:=fun b o z => by
  have q:=hok b o (by rw [upd_ne (ned z)]; exact z)
  refine q.stay (fun c v hc y => (gk c ?_).trans y) (fun c hc => ?_) fun c xs hc => ?_
  ·rcases hc with rfl | hc
   ·exact ned z
   ·exact fun e => by
     rw [e, upd_same] at hc
     exact exo_own (Option.some.inj hc)
  ·by_cases e : c = a
   ·rw [e, upd_same] at hc
    exact (exo_own (Option.some.inj hc)).elim
   ·rw [upd_ne e] at hc
    exact hc
  ·by_cases e : c = a
   ·rw [e, upd_same] at hc
    exact (exo_tup (Option.some.inj hc)).elim
   ·rw [upd_ne e] at hc
    exact hc
 have J : Inv X pins σ H1 ⟨G, g2, d2, t2, os2⟩:=I1.call' (ch:=[]) ho U hok3 hb (fun b z => absurd z (by simp))
 refine ⟨t0, G, J, fun b o z => ?_, ga, hoe⟩
 by_cases hba : b = a
 ·rw [hba, ga] at z
  cases z
 ·exact (gk b hba).symm.trans z
theorem make_run {pins : List (Addr × Obj)} {σ : L2.St} {H1 : Hp} {Q : XK} {s1 : Shared} {us : List Value} {vs : List V} (bf : BaseF B newId initId bm) (T : OeC X.K C newId bm) (iC : PySem.W.findIn X.K (.ref C) "__init__" = some (some (.ref fI))) (tI : PySem.W.typeIn X.K (.ref fI) = some (.type "function"))
  (F1 : FnOk X.prog X.w X.K X.mg X.base (L2.CX X.prog X.w) k fI fd ps sp) (hr : Room (k + 1) X.A) (hb : Binds X.K fd ps []) (I1 : Inv X pins σ H1 s1) (r1 : Vals vs us) (hz : vs.length ≤ 1000)
  (q1 : ∀ a, H1 a = none → sp (.ref a :: vs) (upd H1 a (exo a C none)) (fun v H2 => v = .non ∧ ((∃ (d : Addr) (fs : List (Str × V)), H2 a = some (exo a C (some d)) ∧ H2 d = some (exd d fs) ∧ H1 d = none ∧ Q (.ref C) (some d) (upd (del H2 a) d (.xd fs))) ∨ (H2 = upd H1 a (exo a C none) ∧ Q (.ref C) none H1))) (fun _ _ _ => False)) :
  wpAny (model X.prog X.w) X.A (call (.ref C) us) (MkP X pins σ Q) X.xe s1:=by
 obtain ⟨nm, qn, N, bs, sn, sub, ab, col, dd, k0, k1, k2, k3, k5, hC⟩:=T.cls
 obtain ⟨hp, g, dr, tk, os⟩:=s1
 have big : hp.objs.size ≤ hp.objs.size + 1:=Nat.le_succ _
 have hn : H1 (hp.objs.size + 1) = none:=I1.hok.fresh big
 have hq:=q1 (hp.objs.size + 1) hn
 have kk : ∀ b o, hp.get? b = some o → ((hp.push (PySem.W.kdv_tup us)).push (PySem.HandSPX.excO C hp.objs.size)).get? b = some o:=fun b o z => Heap.get?_push_of_some _ (Heap.get?_push_of_some _ z)
 have got : ((hp.push (PySem.W.kdv_tup us)).push (PySem.HandSPX.excO C hp.objs.size)).get? (hp.objs.size + 1) = some (PySem.HandSPX.excO C hp.objs.size):=by heap_get
 have I2 : Inv X pins σ (upd H1 (hp.objs.size + 1) (exo (hp.objs.size + 1) C none)) ⟨(hp.push (PySem.W.kdv_tup us)).push (PySem.HandSPX.excO C hp.objs.size), g, dr, tk, os⟩ :=
  I1.laid (t':=tk) (o:=exo (hp.objs.size + 1) C none) kk big (exo_ok got)
 have r2 : Vals (V.ref (hp.objs.size + 1) :: vs) (Value.ref (hp.objs.size + 1) :: us):=.cons rfl r1
 have hl : (Value.ref (hp.objs.size + 1) :: us ++ ([] : List Value)).length = ps.length:=by
  have z:=r2.length
  rw [F1.len _ _ _ _ hq] at z
  simpa using z.symm
 have hus : us.length ≤ sizeLine:=by
  rw [← Paired.length r1, sizeLine_eq]
  omega
 have bb:=hb _ (Value.ref (hp.objs.size + 1) :: us) I2.kIn hl
 rw [List.append_nil] at bb
 have init_look:=PySem.W.looks_findIn (M:=model X.prog X.w) I1.kIn iC
 refine wpAny_call (PySem.HandSPX.call_own bf.ex (fun _ => rfl) (I1.kIn _ _ hC) init_look (fun self => PySem.W.bind_fn I1.kIn self tI) hus ?_)
 refine codeAny_mono (F1.run _ X.stack _ _ ⟨Value.ref (hp.objs.size + 1) :: us, []⟩ (Value.ref (hp.objs.size + 1) :: us) _ _ (fun _ _ _ => False) (hr.make C us []) (I2.env0.make C us []) bb r2 hq) fun r s' z => ?_
 match r, z with
 | .error er, z =>
  obtain ⟨_, _, _, _, _, _, _, _, _, _, _, _, z⟩:=z
  exact z.elim
 | .ok .next, z => exact z.elim
 | .ok .brk, z => exact z.elim
 | .ok .cont, z => exact z.elim
 | .ok (.ret u), z =>
  obtain ⟨h2, g2, d2, t2, os'⟩:=s'
  obtain ⟨v, H2, os2, bare2, un2, hok2, rv, ev, zz⟩:=z
  subst ev
  have rs:=raises_own (X:=X) T.exC T.tyC
  rcases zz with ⟨d, fs, ea, ed, hd1, q2⟩ | ⟨eH, q2⟩
  ·exact ⟨rv, mk_end rs I1 big kk un2 hok2 os2 bare2 ea ed hd1 q2⟩
  ·subst eH
   refine ⟨rv, ?_⟩
   obtain ⟨t0, G, J, kG, ge, hoe⟩:=let_go (d2:=d2) (t2:=t2) I1 big kk un2 hok2 os2 bare2 hn
   exact ⟨_, _, _, ⟨G, g2, d2, t2, os'⟩, H1, .ref C, none, rfl, J, kG, ge, hoe, ⟨rfl, rfl⟩, rfl, rfl, hn, rfl, bare2, rs, q2⟩
theorem pmkB (bf : BaseF B newId initId bm) (T : OeC X.K C newId bm) (iC : PySem.W.findIn X.K (.ref C) "__init__" = some (some (.ref fI))) (tI : PySem.W.typeIn X.K (.ref fI) = some (.type "function"))
  (F1 : FnOk X.prog X.w X.K X.mg X.base (L2.CX X.prog X.w) k fI fd ps sp) (hr : Room (k + 1) X.A) (hb : Binds X.K fd ps []) (hg : Gl X x) (hm : X.mg x = some (.ref C)) (ha : PA X (e :: es) ta)
  (hdb : (x == ("__debug__" : Str)) = false:=by decide) (he : starEach (e :: es) X.env = (false, eval e X.env) :: starEach es X.env:=by rfl) (hpl : (backTo pos (starEach es X.env)).any (·.1) = false:=by rfl) :
  PMk X (.Call (.Name x p) (e :: es) [] pos) (tMkB C sp ta):=by
 intro pins s σ H Q I h
 refine wpAny_Call_Name_kw (ld_glob I hg hm ?_ hdb)
 refine PySem.W.callWith_K (h₀:=X.base) I.ok.mod.kin T.kC (thn (ha.run pos pins s σ H _ I h) ?_) he hpl
 rintro us s1 ⟨vs, H1, I1, r1, hz, q1⟩
 exact ⟨I1.kIn, make_run bf T iC tI F1 hr hb I1 r1 hz q1⟩
theorem pmkB0 (bf : BaseF B newId initId bm) (T : OeC X.K C newId bm) (iC : PySem.W.findIn X.K (.ref C) "__init__" = some (some (.ref fI))) (tI : PySem.W.typeIn X.K (.ref fI) = some (.type "function"))
  (F1 : FnOk X.prog X.w X.K X.mg X.base (L2.CX X.prog X.w) k fI fd ps sp) (hr : Room (k + 1) X.A) (hb : Binds X.K fd ps []) (hg : Gl X x) (hm : X.mg x = some (.ref C)) (hdb : (x == ("__debug__" : Str)) = false:=by decide) :
  PMk X (.Call (.Name x p) [] [] pos) (tMkB C sp tNil):=by
 intro pins s σ H Q I h
 refine wpAny_Call_Name_kw (ld_glob I hg hm ?_ hdb)
 exact PySem.W.callWith_K0 I.kIn T.kC (make_run (us:=[]) bf T iC tI F1 hr hb I .nil (by decide) h.2)
end
def sRaise1 (c f : Str) (g : FA) : FS:=fun ρ S => (g ρ S).then ρ fun ws S1 => match ws with
 | [.dat d] => .exc ⟨c, [(f, d)]⟩ ρ S1
 | _ => .bad
def sRaise0 (c : Str) : FS:=fun ρ S => .exc ⟨c, []⟩ ρ S
section
variable {T : Tb} {X : Cx} {Wx : WX} {k : Nat} {c f : Str} {e : Expr} {g : FA} {p pos pos' : Pos}
theorem js_raise1 (hT : ∀ c : Str, T.cls c = some (He.ga X.K c)) (D : Xc X.prog X.w X.K X.mg X.base k c [f]) (hc : X.calm = true) (tk : Takes X Wx) (hr : Room (k + 1) X.A) (he : JA T X Wx [e] g) (hg : Gl X c:=by rfl)
  (hdb : (c == ("__debug__" : Str)) = false:=by decide) (hs : starEach [e] X.env = (false, eval e X.env) :: starEach [] X.env:=by rfl) : JS T X Wx (.Raise (some (.Call (.Name c p) [e] [] pos)) none pos') (sRaise1 c f g):=by
 obtain ⟨B, newId, initId, bm, fI, fd, bf, oe, ini, fn, F1, hb⟩:=D.ex
 obtain ⟨t, h1, s1⟩:=he
 refine ⟨_, ps_raise hc tk (pmkB bf oe ini fn F1 hr hb hg D.glo h1 hdb hs rfl), fun G F A S H σ ρ Dn hw hs hp => ?_⟩
 refine s1 G F A S H σ ρ _ hw hs (PostS.then hs hp fun ws S' F' A' H' vs e1 p1 w' r q => ?_)
 match ws, r, q with
 | [], _, q => exact q.elim
 | .loc _ _ :: _, _, q => cases ‹List W› <;> exact q.elim
 | .scr _ :: _, _, q => cases ‹List W› <;> exact q.elim
 | .exn _ :: _, _, q => cases ‹List W› <;> exact q.elim
 | .xl _ :: _, _, q => cases ‹List W› <;> exact q.elim
 | .dat d :: _ :: _, _, q => exact q.elim
 | [.dat d], .cons (b:=v) r .nil, q =>
  have r : Rep X.K F' d v:=r
  refine ⟨show 1 ≤ 1000 by decide, fun a na => ⟨a, v, rfl, upd_same, fun dx nd ne => ⟨rfl, .inl ⟨dx, [(f, v)], upd_same, by rw [upd_ne ne, upd_same], ?_, ?_⟩⟩⟩⟩
  ·rw [upd_ne ne] at nd
   exact nd
  ·rw [upd_ne ne] at nd
   have eH : upd (del (upd (upd (upd H' a (exo a (He.ga X.K c) none)) dx (exd dx [(f, v)])) a (exo a (He.ga X.K c) (some dx))) a) dx (.xd [(f, v)]) = upd H' dx (.xd [(f, v)]):=by
    funext b
    by_cases hb : b = dx
    ·rw [hb, upd_same, upd_same]
    ·rw [upd_ne hb, upd_ne hb]
     by_cases ha : b = a
     ·rw [ha, del_same, na]
     ·rw [del_ne ha, upd_ne ha, upd_ne hb, upd_ne ha]
   rw [eH]
   have wn:=w'.new nd (.xd [(f, v)])
   refine q (upd F' dx (.xd [(f, v)])) A' _ σ (.ref (He.ga X.K c)) (some dx) (w'.exNew nd _) (Pre.refl _) wn ((hs.mono e1 p1).mono (w'.exNew nd _) (Pre.refl _)) ?_
   exact ⟨_, hT c, rfl, .inr ⟨dx, _, rfl, upd_same, .cons ⟨rfl, Rep.mono (w'.exNew nd _) r⟩ .nil⟩⟩
end
end Vz
namespace Vz
open PySem PySem.Spec PyProof.Rows L2
inductive PutR where
 | ok (xs : List Int) (ts : List (Option Int))
 | dup (i : Int)
 | mis (i : Int)
theorem findI_none {k : Int} : ∀ {zs : List Int}, findI k zs = none → k ∉ zs
 | [], _ => by simp
 | z :: zs, h => by
  unfold findI at h
  cases q : decide (z = k) with
  | true => rw [q] at h; cases h
  | false =>
   rw [q] at h
   have h' : findI k zs = none:=by
    cases r : findI k zs with
    | none => rfl
    | some j => rw [r] at h; cases h
   have ih:=findI_none h'
   have hz:=of_decide_eq_false q
   intro m
   rcases List.mem_cons.mp m with m | m
   ·exact hz m.symm
   ·exact ih m
end Vz
namespace Vz
open PySem PySem.Spec PyProof.Rows L2
section
variable {M : Model} {K : PySem.W.Frag}
end
section
variable {X : Cx} {Q : Value → Shared → Prop} {E : Value → Shared → Prop} {A : Around}
def NamesL (X : Cx) : List (Str × Pos) → List Value → Prop
 | [], [] => True
 | (x, _) :: r, c :: cs => Gl X x ∧ (x == ("__debug__" : Str)) = false ∧ X.mg x = some c ∧ NamesL X r cs
 | _, _ => False
theorem NamesL.suite {a : Addr} {pn : List (Addr × Obj)} : ∀ {ns : List (Str × Pos)} {cs : List Value}, NamesL X ns cs → NamesL (X.suite a pn) ns cs
 | [], [], _ => trivial
 | (x, p) :: ns, c :: cs, ⟨h1, h2, h3, h4⟩ => ⟨h1, h2, h3, NamesL.suite h4⟩
end
section
open PySem.HandSPX
end
section
variable {X : Cx} {pins : List (Addr × Obj)} {σ : L2.St} {H : Hp} {s : Shared}
theorem Inv.hold {a : Addr} {oe : Obj} {us : Array Value} {ca : Addr} {d : Option Addr} (I : Inv X pins σ H s) (ha : s.heap.get? a = some oe) (hc : oe.cls = .ref ca) (hd : oe.dict = d) (hf : oe.data = .fields us) (na : H a = none) (n0 : X.s_0.heap.get? a = none) (nL : a ≠ X.env.locals) (nC : ∀ x c, X.env.cells.lookup x = some c → c ≠ a) (np : ∀ p ∈ X.pn ++ pins, p.1 ≠ a) :
  Inv X pins σ (upd H a (exnHO a ca d)) s:=by
 have n0' : ∀ {b : Addr} {o : Obj}, X.s_0.heap.get? b = some o → b ≠ a:=fun {b o} q z => by
  rw [z, n0] at q
  cases q
 refine ⟨I.ok, I.os, I.bare, ⟨I.base.keep, I.base.slot, fun b o q n hx => ?_, I.base.there, fun b xs q => ?_, fun b o u q => ?_, fun b ps q => ?_⟩, I.loc, I.cell, ?_, fun x c q => ?_, fun p hp => ?_, fun b u q => ?_, I.len⟩
 ·rw [upd_ne (n0' q)]
  exact I.base.free b o q n hx
 ·have z:=I.base.tups b xs q
  rw [upd_ne (ne_of_none z na)]
  exact z
 ·have z:=I.base.frzs b o u q
  rw [upd_ne (ne_of_none z na)]
  exact z
 ·obtain ⟨m, z⟩:=I.base.tbls b ps q
  exact ⟨m, by rw [upd_ne (ne_of_none z na)]; exact z⟩
 ·rw [upd_ne (Ne.symm nL)]
  exact I.free
 ·rw [upd_ne (nC x c q)]
  exact I.freeC x c q
 ·obtain ⟨h1, h2, h3, h4, h5⟩:=I.pin p hp
  exact ⟨h1, by rw [upd_ne (np p hp)]; exact h2, h3, h4, h5⟩
 ·by_cases hb : b = a
  ·subst hb
   rw [upd_same] at q
   cases q
   exact ⟨⟨oe, us, ha, hc, hd, hf⟩, ⟨oe, ha⟩, fun h1 h2 ⟨o, v, q1, q2⟩ k => ⟨o, v, k o q1, q2⟩⟩
  ·rw [upd_ne hb] at q
   refine (I.hok b u q).stay (fun c v _ y => y) (fun c hc => ?_) fun c xs hc => ?_
   ·rw [upd_ne (ne_of_none hc na)]
    exact hc
   ·rw [upd_ne (ne_of_none hc na)]
    exact hc
end
section
variable {X : Cx} {n : Str} {cs : List Value} {i kk : Nat} {body suite : List Stmt} {b₀ : Stmt} {ns : List (Str × Pos)} {pos pos' tpos : Pos} {tb : WX → TS} {ts : Addr → TS} {Wout : WX}
end
end Vz
namespace Vz
open PySem PySem.Spec PyProof.Rows L2
theorem Sl.drop1 {K : PySem.W.Frag} {F : Hp} {A : List (List Addr)} {ρ : Rho} {σ : L2.St} (h : Sl K F A ρ σ) (i : Nat) : Sl K F A (ρ.set i none) (σ.set i none):=by
 refine ⟨by rw [List.length_set, List.length_set]; exact h.len, fun j w' q => ?_⟩
 by_cases hj : i = j
 ·subst hj
  have hi : i < ρ.length:=by
   have q':=(List.getElem?_eq_some_iff.mp q).1
   rwa [List.length_set] at q'
  rw [List.getElem?_set_self hi] at q
  cases q
 ·rw [List.getElem?_set_ne hj] at q
  obtain ⟨v', h1, h2⟩:=h.at_ j w' q
  exact ⟨v', by rw [List.getElem?_set_ne hj]; exact h1, h2⟩
def Out.drop1 (i : Nat) : Out → Out
 | .nx ρ S => .nx (ρ.set i none) S
 | .bk ρ S => .bk (ρ.set i none) S
 | .ct ρ S => .ct (ρ.set i none) S
 | .rt w S => .rt w S
 | _ => .bad
def sTry (L cl : List Str) (i : Nat) (gb gs : FS) : FS:=fun ρ S => match gb ρ S with
 | .exc x ρ1 S1 => (match L.contains x.cls with
  | true => (match cl.contains x.cls with
   | true => (gs (ρ1.set i (some (.exn x))) S1).drop1 i
   | false => .exc x ρ1 S1)
  | false => .bad)
 | r => r
structure ExT (K : PySem.W.Frag) (L : List Str) (B : List String) (tb : Str → String → Bool) (fl : List Str) : Prop where
 c : ∀ x ∈ L, ExcC K (He.ga K x)
 fld : ∀ x ∈ L, ∀ f ∈ fl, PySem.W.findIn K (.ref (He.ga K x)) f = some none
 exm : ∀ x ∈ L, ∀ y ∈ L, PySem.W.exmOne K (.ref (He.ga K x)) (.ref (He.ga K y)) = some (x == y)
 isi : ∀ x ∈ L, ∀ y ∈ L, PySem.W.kitOne K (.ref (He.ga K x)) (.ref (He.ga K y)) = some (x == y)
 bas : ∀ x ∈ L, ∀ b ∈ B, PySem.W.kitOne K (.ref (He.ga K x)) (.type b) = some (tb x b)
theorem ExT.any {K : PySem.W.Frag} {L : List Str} {B : List String} {tb : Str → String → Bool} {fl : List Str} (E : ExT K L B tb fl) {x : Str} (hx : x ∈ L) : ∀ {cl : List Str}, (∀ y ∈ cl, y ∈ L) → PySem.W.exmAny K (.ref (He.ga K x)) (cl.map fun y => .ref (He.ga K y)) = some (cl.contains x)
 | [], _ => rfl
 | y :: cl, h => by
  have e:=E.exm x hx y (h y (by simp))
  have r:=ExT.any E hx (fun z hz => h z (List.mem_cons_of_mem _ hz))
  show (match PySem.W.exmOne K (.ref (He.ga K x)) (.ref (He.ga K y)), PySem.W.exmAny K (.ref (He.ga K x)) (cl.map fun y => .ref (He.ga K y)) with
   | some b, some d => some (b || d)
   | _, _ => none) = _
  rw [e, r, List.contains_cons]
section
variable {T : Tb} {X : Cx} {Wx : WX} {L : List Str} {B : List String} {tb : Str → String → Bool} {fl : List Str}
def isNoW : W → Bool
 | .dat .none => true
 | _ => false
def fIsN (f : FE) : FE:=fun ρ S => (f ρ S).bind fun w S1 => .ok (.dat (.bool (isNoW w))) S1
def fIsNN (f : FE) : FE:=fun ρ S => (f ρ S).bind fun w S1 => .ok (.dat (.bool (!isNoW w))) S1
variable {a : Expr} {fa : FE} {pos pc : Pos} {j : Nat}
end
section
variable {X : Cx}
def HeldO (H : Hp) (a C : Addr) (d : Option Addr) : Prop:=H a = some (exnHO a C d) ∧ (d = none ∨ ∃ dd vfs, d = some dd ∧ H dd = some (.xd vfs))
theorem HeldO.inst {pins : List (Addr × Obj)} {σ : L2.St} {H : Hp} {s : Shared} {a C : Addr} {d : Option Addr} (I : Inv X pins σ H s) (h : HeldO H a C d) : ∃ ox od, PySem.W.InstAt s.heap a ox C od:=by
 obtain ⟨ha, h⟩:=h
 obtain ⟨⟨oe, us, h1, h2, h3, h4⟩, _⟩:=I.hok a _ ha
 rcases h with rfl | ⟨dd, vfs, rfl, hd⟩
 ·refine ⟨oe, none, h1, h2, ?_, ?_⟩
  ·unfold PySem.W.notCls
   rw [h4] <;> rfl
  ·rw [h3]
   trivial
 ·obtain ⟨mA, hns, hr⟩:=(show ObjOk X.prog X.w H s.heap dd (.xd vfs) from I.hok dd _ hd)
  obtain ⟨od, ho, _⟩:=lookIn_ns hns
  refine ⟨oe, some od, h1, h2, ?_, ?_⟩
  ·unfold PySem.W.notCls
   rw [h4] <;> rfl
  ·rw [h3]
   exact ho
def rIsHeld (K : PySem.W.Frag) : List V → Hp → VK → Prop:=fun xs H Q => ∃ (a C : Addr) (d : Option Addr) (c : V) (cv : Value) (b : Bool), xs = [.ref a, c] ∧ ClsV c cv ∧ ExcC K C ∧ HeldO H a C d ∧ PySem.W.kitOne K (.ref C) cv = some b ∧ Q (.bl b) H
theorem call_isHeld : CallR X (.builtin "isinstance") (rIsHeld X.K):=by
 intro pins s σ H xs us Q I r h
 obtain ⟨a, C, d, c, cv, b, rfl, hcv, cc, ha, e, q⟩:=h
 obtain ⟨u1, u2, rfl, r1, r2⟩:=vals2 r
 have e2:=hcv.eq r2
 subst e2
 cases (show u1 = Value.ref a from r1)
 obtain ⟨ox, od, J⟩:=ha.inst I
 obtain ⟨cd, hcd, _⟩:=PySem.W.any_some cc.hd
 exact PySem.W.kia_one (PySem.W.kitx_exc (by rw [hcd]; rfl) cc.hg cc.hk cc.hs cc.ha cc.hn cc.ht cc.hm) I.kIn J e (fun z => nomatch z) fun tk => ⟨.bl b, H, I.tok tk, rfl, q⟩
end
theorem ExnAt.held {K : PySem.W.Frag} {F H : Hp} {x : Exn} {a : Addr} (e : Ex F H) (h : ExnAt K F x a) : ∃ d, HeldO H a (He.ga K x.cls) d:=by
 obtain ⟨d, h1, h2⟩:=h
 refine ⟨d, e _ _ h1, ?_⟩
 rcases h2 with ⟨_, h2⟩ | ⟨dd, vfs, h3, h4, _⟩
 ·exact .inl h2
 ·exact .inr ⟨dd, vfs, h3, e _ _ h4⟩
section
variable {T : Tb} {X : Cx} {Wx : WX} {L : List Str} {B : List String} {tb : Str → String → Bool} {fl : List Str} {a : Expr} {fa : FE} {pos : Pos}
def fIsX (L : List Str) (g : Str → Bool) (f : FE) : FE:=fun ρ S => (f ρ S).bind fun w S1 => match w with
 | .exn x => (match L.contains x.cls with
  | true => .ok (.dat (.bool (g x.cls))) S1
  | false => .bad)
 | _ => .bad
theorem semE_isX {t : TE} {v : V} {u : Value} {g : Str → Bool} (E : ExT X.K L B tb fl) (hv : ClsV v u) (hg : ∀ x ∈ L, PySem.W.kitOne X.K (.ref (He.ga X.K x)) u = some (g x)) (h : SemE T X.K Wx t fa) : SemE T X.K Wx (tCB (rIsHeld X.K) (tCons t (tCons (tC v) tNil))) (fIsX L g fa):=by
 intro G F A S H σ ρ Q hw hs hp
 refine h G F A S H σ ρ _ hw hs (hp.bind fun w S1 F1 A1 H1 v1 e1 p1 w1 r1 hp1 => ?_)
 cases w with
 | dat d => exact hp1.elim
 | scr ns => exact hp1.elim
 | loc k j => exact hp1.elim
 | xl x => exact hp1.elim
 | exn x =>
  obtain ⟨a, rfl, r1⟩:=r1
  dsimp only at hp1
  cases hL : L.contains x.cls with
  | false => rw [hL] at hp1; exact hp1.elim
  | true =>
   rw [hL] at hp1
   have hx : x.cls ∈ L:=List.contains_iff_mem.mp hL
   obtain ⟨d, hd⟩:=r1.held w1.sub
   exact ⟨a, _, d, v, u, _, rfl, hv, E.c _ hx, hd, hg _ hx, hp1 F1 A1 H1 _ (Evl.Ex.refl _) (Pre.refl _) w1 (.bl _)⟩
theorem je_isXo {y : Str} {p1 p2 : Pos} (E : ExT X.K L B tb fl) (hy : y ∈ L) (hm : X.mg "isinstance" = none) (hmx : X.mg y = some (.ref (He.ga X.K y))) (ha : JE T X Wx a fa) (hg : Gl X "isinstance":=by rfl) (hgx : Gl X y:=by rfl) (hdx : (y == ("__debug__" : Str)) = false:=by decide)
  (he : starEach [a, .Name y p2] X.env = (false, eval a X.env) :: starEach [.Name y p2] X.env:=by rfl) (he2 : starEach [.Name y p2] X.env = (false, eval (.Name y p2) X.env) :: starEach [] X.env:=by rfl) (hpl : (backTo pos (starEach [.Name y p2] X.env)).any (·.1) = false:=by rfl) :
  JE T X Wx (.Call (.Name "isinstance" p1) [a, .Name y p2] [] pos) (fIsX L (fun x => x == y) fa):=by
 obtain ⟨t, h1, s1⟩:=ha
 have hA : PA X [a, .Name y p2] (tCons t (tCons (tC (.ref (He.ga X.K y))) tNil)):=pa_cons h1 (pa_cons (pe_glob hgx hmx rfl hdx) pa_nil he2) he
 exact ⟨_, pe_callB call_isHeld hg hm boot_isinstance hA (by decide) (by decide) he hpl, semE_isX E (.own _) (fun x hx => E.isi x hx y hy) s1⟩
theorem je_isXb {y : Str} {b : String} {p1 p2 : Pos} (E : ExT X.K L B tb fl) (hb : b ∈ B) (hbt : bootBuiltins y = some (.type b)) (hm : X.mg "isinstance" = none) (hmx : X.mg y = none) (ha : JE T X Wx a fa) (hg : Gl X "isinstance":=by rfl) (hgx : Gl X y:=by rfl) (hnx : y ≠ "__name__":=by decide) (hdx : (y == ("__debug__" : Str)) = false:=by decide)
  (he : starEach [a, .Name y p2] X.env = (false, eval a X.env) :: starEach [.Name y p2] X.env:=by rfl) (he2 : starEach [.Name y p2] X.env = (false, eval (.Name y p2) X.env) :: starEach [] X.env:=by rfl) (hpl : (backTo pos (starEach [.Name y p2] X.env)).any (·.1) = false:=by rfl) :
  JE T X Wx (.Call (.Name "isinstance" p1) [a, .Name y p2] [] pos) (fIsX L (fun x => tb x b) fa):=by
 obtain ⟨t, h1, s1⟩:=ha
 have hA : PA X [a, .Name y p2] (tCons t (tCons (tC (.ty b)) tNil)):=pa_cons h1 (pa_cons (pe_bltn hgx hmx hbt (show RelV (.ty b) (.type b) from rfl) hnx hdx) pa_nil he2) he
 exact ⟨_, pe_callB call_isHeld hg hm boot_isinstance hA (by decide) (by decide) he hpl, semE_isX E (.ty _) (fun x hx => E.bas x hx b hb) s1⟩
def tXfH (K : PySem.W.Frag) (n : Str) (te : TE) : TE:=fun σ H Q => te σ H fun x H1 => ∃ (a C dd : Addr) (fs : List (Str × V)) (v : V), x = .ref a ∧ ExcC K C ∧ PySem.W.findIn K (.ref C) n = some none ∧ HeldO H1 a C (some dd) ∧ H1 dd = some (.xd fs) ∧ fs.lookup n = some v ∧ Q v H1
theorem pe_xfH {e : Expr} {te : TE} {n : Str} (he : PE X e te) (hb : attributeBase e n X.env (eval e X.env) = eval e X.env:=by rfl) : PE X (.Attribute e n pos) (tXfH X.K n te):=by
 refine ⟨fun pins s σ H Q I h => ?_⟩
 refine attr_of hb (thn (he.run pins s σ H _ I h) fun u s1 hh => ?_)
 obtain ⟨x, H1, I1, rx, a, C, dd, fs, v, rfl, cc, hno, held, ea, l, q⟩:=hh
 obtain rfl : u = Value.ref a:=rx
 obtain ⟨⟨oe, us, h1, h2, h3, h4⟩, _⟩:=I1.hok a _ held.1
 obtain ⟨mA, hns, hr⟩:=(show ObjOk X.prog X.w H1 s1.heap dd (.xd fs) from I1.hok dd _ ea)
 obtain ⟨od, ho, hl⟩:=lookIn_ns hns
 obtain ⟨u, hu, ru⟩:=RelO.some_of (v:=v) (o:=mA n) (by rw [← l]; exact hr n)
 have J : PySem.W.InstAt s1.heap a oe C (some od):=⟨h1, h2, by unfold PySem.W.notCls; rw [h4] <;> rfl, by rw [h3]; exact ho⟩
 exact HandSPX.exc_get I1.kIn J cc.hg cc.hk cc.hs (PySem.W.findObj_own cc.hd hno rfl (by rw [hl, hu])) (handed_of ru) ⟨v, H1, I1.tok _, ru, q⟩
def fXf (L : List Str) (n : Str) (f : FE) : FE:=fun ρ S => (f ρ S).bind fun w S1 => match w with
 | .exn x => (match L.contains x.cls with
  | true => R.lift ((x.fs.lookup n).map W.dat) S1
  | false => .bad)
 | _ => .bad
theorem look_paired {K : PySem.W.Frag} {F : Hp} {n : Str} {d : D} : ∀ {fs : List (Str × D)} {vs : List (Str × V)}, Paired (fun (p : Str × D) (q : Str × V) => p.1 = q.1 ∧ Rep K F p.2 q.2) fs vs → fs.lookup n = some d → ∃ v, vs.lookup n = some v ∧ Rep K F d v
 | _, _, .nil, h => by cases h
 | (f, d1) :: fs, (g, v1) :: vs, .cons ⟨e, r⟩ rest, h => by
  have e : f = g:=e
  subst e
  rw [List.lookup_cons] at h ⊢
  cases hb : (n == f) with
  | true =>
   rw [hb] at h
   cases h
   exact ⟨v1, rfl, r⟩
  | false =>
   rw [hb] at h
   exact look_paired rest h
theorem je_xf {n : Str} {e : Expr} (E : ExT X.K L B tb fl) (hn : n ∈ fl) (he : JE T X Wx e fa) (hb : attributeBase e n X.env (eval e X.env) = eval e X.env:=by rfl) : JE T X Wx (.Attribute e n pos) (fXf L n fa):=by
 obtain ⟨t, h1, s1⟩:=he
 refine ⟨_, pe_xfH h1 hb, fun G F A S H σ ρ Q hw hs hp => ?_⟩
 refine s1 G F A S H σ ρ _ hw hs (hp.bind fun w S1 F1 A1 H1 v1 e1 p1 w1 r1 hp1 => ?_)
 cases w with
 | dat d => exact hp1.elim
 | scr ns => exact hp1.elim
 | loc k j => exact hp1.elim
 | xl x => exact hp1.elim
 | exn x =>
  obtain ⟨a, rfl, r1⟩:=r1
  dsimp only at hp1
  cases hL : L.contains x.cls with
  | false => rw [hL] at hp1; exact hp1.elim
  | true =>
   rw [hL] at hp1
   have hx : x.cls ∈ L:=List.contains_iff_mem.mp hL
   obtain ⟨w', hw', q⟩:=hp1.lift
   cases hl : x.fs.lookup n with
   | none => rw [hl] at hw'; cases hw'
   | some d =>
    rw [hl] at hw'
    cases hw'
    obtain ⟨dx, g1, g2⟩:=r1
    rcases g2 with ⟨g2, _⟩ | ⟨dd, vfs, rfl, g4, g5⟩
    ·rw [g2] at hl
     cases hl
    ·obtain ⟨v, lv, rv⟩:=look_paired g5 hl
     exact ⟨a, _, dd, vfs, v, rfl, E.c _ hx, E.fld _ hx n hn, ⟨w1.sub _ _ g1, .inr ⟨dd, vfs, rfl, w1.sub _ _ g4⟩⟩, w1.sub _ _ g4, lv, q F1 A1 H1 v (Evl.Ex.refl _) (Pre.refl _) w1 rv⟩
end
end Vz
namespace Vz
open PySem PySem.Spec PyProof.Rows L2
theorem excB_ok {K : PySem.W.Frag} {C : Addr} (h : excB K C = true) : ExcC K C:=by
 obtain ⟨h1, h⟩:=Bool.and_eq_true_iff.mp h
 obtain ⟨h2, h⟩:=Bool.and_eq_true_iff.mp h
 obtain ⟨h3, h⟩:=Bool.and_eq_true_iff.mp h
 obtain ⟨h4, h⟩:=Bool.and_eq_true_iff.mp h
 obtain ⟨h5, h⟩:=Bool.and_eq_true_iff.mp h
 obtain ⟨h6, h⟩:=Bool.and_eq_true_iff.mp h
 obtain ⟨h7, h8⟩:=Bool.and_eq_true_iff.mp h
 exact ⟨He.eqO_ok h1, He.eqO_ok h2, of_decide_eq_true h3, h4, He.eqO_ok h5, He.eqO_ok h6, of_decide_eq_true h7, of_decide_eq_true h8⟩
theorem extB_ok {K : PySem.W.Frag} {L : List Str} {B : List String} {tb : Str → String → Bool} {fl : List Str} (h : extB L B tb fl K = true) : ExT K L B tb fl:=by
 have row : ∀ x ∈ L, rowB K L B tb fl x = true:=fun x hx => List.all_eq_true.mp h x hx
 refine ⟨fun x hx => ?_, fun x hx f hf => ?_, fun x hx y hy => ?_, fun x hx y hy => ?_, fun x hx b hb => ?_⟩
 ·exact excB_ok (Bool.and_eq_true_iff.mp (row x hx)).1
 ·have z:=(Bool.and_eq_true_iff.mp (Bool.and_eq_true_iff.mp (row x hx)).2).1
  exact He.eqO_ok (List.all_eq_true.mp z f hf)
 ·have z:=(Bool.and_eq_true_iff.mp (Bool.and_eq_true_iff.mp (Bool.and_eq_true_iff.mp (row x hx)).2).2).1
  exact of_decide_eq_true (List.all_eq_true.mp z y hy)
 ·have z:=(Bool.and_eq_true_iff.mp (Bool.and_eq_true_iff.mp (Bool.and_eq_true_iff.mp (Bool.and_eq_true_iff.mp (row x hx)).2).2).2).1
  exact of_decide_eq_true (List.all_eq_true.mp z y hy)
 ·have z:=(Bool.and_eq_true_iff.mp (Bool.and_eq_true_iff.mp (Bool.and_eq_true_iff.mp (Bool.and_eq_true_iff.mp (row x hx)).2).2).2).2
  exact of_decide_eq_true (List.all_eq_true.mp z b hb)
end Vz
namespace Vz
open PySem PySem.Spec PyProof.Rows L2
structure FldAt where
 k : Nat
 j : Nat
 cl : Str
 fs : List (Str × List D)
 f : Str
 xs : List D
def lstF (S : Sto) : W → Option FldAt
 | .loc k (j + 2) => match S[k]? with
  | some (.ins cl fs) => (fs[j]?).map fun p => ⟨k, j, cl, fs, p.1, p.2⟩
  | _ => none
 | _ => none
def FldAt.put (p : FldAt) (ys : List D) (S : Sto) : Sto:=S.set p.k (.ins p.cl (p.fs.set p.j (p.f, ys)))
abbrev FieldP (K : PySem.W.Frag) (F H : Hp) (p : Str × List D) (b : Addr) : Prop:=F b = none ∧ ∃ vs, H b = some (.lst vs) ∧ Reps K F p.2 vs
section
variable {T : Tb} {K : PySem.W.Frag} {F H : Hp}
theorem fld_far {p : Addr} {o : HO} : ∀ {fs : List (Str × List D)} {bs : List Addr}, p ∉ bs → Paired (FieldP K F H) fs bs → Paired (FieldP K F (upd H p o)) fs bs
 | _, _, _, .nil => .nil
 | _, _, n, .cons ⟨h1, vs, h2, h3⟩ r => .cons ⟨h1, vs, by rw [upd_ne (fun z => n (by rw [z]; exact List.mem_cons_self ..))]; exact h2, h3⟩ (fld_far (fun z => n (List.mem_cons_of_mem _ z)) r)
theorem fld_put {f : Str} {xs ys : List D} {us : List V} (ry : Reps K F ys us) : ∀ {fs : List (Str × List D)} {bs : List Addr} {j : Nat} {p : Addr}, bs.Nodup → Paired (FieldP K F H) fs bs → fs[j]? = some (f, xs) → bs[j]? = some p → Paired (FieldP K F (upd H p (.lst us))) (fs.set j (f, ys)) bs
 | [], _, _, _, _, .nil, h, _ => by simp at h
 | g :: fs, b :: bs, 0, p, nd, .cons ⟨h1, vs, h2, h3⟩ r, h, hb => by
  simp at hb
  subst hb
  obtain ⟨n1, n2⟩:=List.nodup_cons.mp nd
  exact .cons ⟨h1, us, upd_same, ry⟩ (fld_far n1 r)
 | g :: fs, b :: bs, j + 1, p, nd, .cons ⟨h1, vs, h2, h3⟩ r, h, hb => by
  obtain ⟨n1, n2⟩:=List.nodup_cons.mp nd
  have hb':=by simpa using hb
  have ne : b ≠ p:=fun z => n1 (by rw [z]; exact List.mem_of_getElem? hb')
  exact .cons ⟨h1, vs, by rw [upd_ne ne]; exact h2, h3⟩ (fld_put ry n2 r (by simpa using h) hb')
theorem map_set_same {f : Str} {xs ys : List D} : ∀ {fs : List (Str × List D)} {j : Nat}, fs[j]? = some (f, xs) → (fs.set j (f, ys)).map (·.1) = fs.map (·.1)
 | [], _, h => by simp at h
 | q :: fs, 0, h => by
  simp at h
  subst h
  rfl
 | q :: fs, j + 1, h => by
  have:=map_set_same (ys:=ys) (fs:=fs) (j:=j) (by simpa using h)
  simp [this]
theorem lstF_rep {A : List (List Addr)} {S : Sto} {w : W} {v : V} {p : FldAt} (hw : Wd T K F A S H) (r : RepW K F A w v) (h : lstF S w = some p) :
  ∃ b vs, v = .ref b ∧ H b = some (.lst vs) ∧ Reps K F p.xs vs ∧ ∀ ys us, Reps K F ys us → Wd T K F A (p.put ys S) (upd H b (.lst us)):=by
 unfold lstF at h
 split at h
 ·rename_i k j
  split at h
  ·rename_i cl fs e
   obtain ⟨⟨f, xs⟩, h1, rfl⟩:=om h
   obtain ⟨as, b, g1, g2, rfl⟩:=r
   obtain ⟨a, dx, bs, ca, rfl, c1, c2, c3, c4, c5, c6⟩:=hw.ok _ as _ g1 e
   have g2' : bs[j]? = some b:=by simpa using g2
   obtain ⟨b', hb', q1, vs, q2, q3⟩:=prd_get c6 h1
   rw [g2'] at hb'
   cases hb'
   have nd:=nodup_mem hw.nod g1
   obtain ⟨n1, nd1⟩:=List.nodup_cons.mp nd
   obtain ⟨n2, nd2⟩:=List.nodup_cons.mp nd1
   have mb : b ∈ bs:=List.mem_of_getElem? g2'
   have na : a ≠ b:=fun z => n1 (by rw [z]; exact List.mem_cons_of_mem _ mb)
   have ndx : dx ≠ b:=fun z => n2 (by rw [z]; exact mb)
   refine ⟨b, vs, rfl, q2, q3, fun ys us ry => ?_⟩
   refine hw.write g1 (List.mem_cons_of_mem _ (List.mem_cons_of_mem _ mb)) q1 ?_ q2
   refine ⟨a, dx, bs, ca, rfl, c1, c2, c3, by rw [upd_ne ndx]; exact c4, ?_, fld_put ry nd2 c6 h1 g2'⟩
   rw [upd_ne na, map_set_same h1]
   exact c5
  ·cases h
 ·cases h
def mAppendF : W → List W → Sto → Option (W × Sto):=fun w ws S => match ws with
 | [x] => (lstF S w).bind fun p => (frd S x).bind fun d => ifO (decide (p.xs.length < lim)) (some (.dat .none, p.put (p.xs ++ [d]) S))
 | _ => none
theorem m_appendF : MethL T K rAppend mAppendF:=by
 intro G F A S H x xs w ws w' S' Q hw rx rs h q
 unfold mAppendF at h
 split at h
 ·obtain ⟨p, h1, h⟩:=ob h
  obtain ⟨d, h2, h⟩:=ob h
  obtain ⟨c, h⟩:=ifO_some h
  cases h
  obtain ⟨b, vs, rfl, g1, g2, g3⟩:=lstF_rep hw rx h1
  cases rs with
  | cons r rr =>
   cases rr
   have rd':=frd_rep hw r h2
   exact ⟨b, vs, _, rfl, rfl, g1, by rw [← g2.length]; exact lim_lt (of_decide_eq_true c), q F _ _ (Evl.Ex.refl _) (g3 _ _ (g2.append (.cons rd' .nil))) .non⟩
 ·cases h
end
structure InC (K : PySem.W.Frag) (c : Str) (fl ml : List Str) : Prop where
 cl : Cls K (He.ga K c)
 no : ∀ f ∈ fl, NoAttr K (He.ga K c) f
 me : ∀ m ∈ ml, Meth K (He.ga K c) m (He.ma K (He.ga K c) m)
def insW (c : Str) (S : Sto) : W → Option (Nat × List (Str × List D))
 | .loc k 0 => match S[k]? with
  | some (.ins cl fs) => (match decide (cl = c) with
   | true => some (k, fs)
   | false => none)
  | _ => none
 | _ => none
theorem insW_rep {T : Tb} {K : PySem.W.Frag} {F H : Hp} {A : List (List Addr)} {S : Sto} {w : W} {v : V} {c : Str} {k : Nat} {fs : List (Str × List D)} (hT : ∀ c : Str, T.cls c = some (He.ga K c)) (hw : Wd T K F A S H) (r : RepW K F A w v) (h : insW c S w = some (k, fs)) :
  w = .loc k 0 ∧ ∃ a dx bs, v = .ref a ∧ A[k]? = some (a :: dx :: bs) ∧ H a = some (.ins (He.ga K c) dx ((fs.map (·.1)).zip (bs.map V.ref))) ∧ bs.length = fs.length ∧ S[k]? = some (.ins c fs):=by
 unfold insW at h
 split at h
 ·split at h
  ·rename_i k' cl fs' e
   cases hd : decide (cl = c) with
   | false => rw [hd] at h; cases h
   | true =>
    rw [hd] at h
    cases h
    have hc:=of_decide_eq_true hd
    subst hc
    obtain ⟨as, b, g1, g2, rfl⟩:=r
    obtain ⟨a, dx, bs, ca, rfl, c1, c2, c3, c4, c5, c6⟩:=hw.ok _ as _ g1 e
    rw [hT] at c1
    cases c1
    have hb : b = a:=by simpa using g2.symm
    subst hb
    exact ⟨rfl, b, dx, bs, rfl, g1, c5, (Paired.length c6).symm, e⟩
  ·cases h
 ·cases h
def fix_ (f : Str) : List (Str × List D) → Option Nat
 | [] => none
 | p :: r => match decide (p.1 = f) with
  | true => some 0
  | false => (fix_ f r).map (· + 1)
theorem fix_look {f : Str} : ∀ {fs : List (Str × List D)} {bs : List Addr} {j : Nat}, bs.length = fs.length → fix_ f fs = some j → ∃ b, bs[j]? = some b ∧ ((fs.map (·.1)).zip (bs.map V.ref)).lookup f = some (.ref b)
 | [], _, _, _, h => by cases h
 | (g, xs) :: fs, [], _, hl, _ => by cases hl
 | (g, xs) :: fs, b :: bs, j, hl, h => by
  unfold fix_ at h
  dsimp only at h
  cases hd : decide (g = f) with
  | true =>
   rw [hd] at h
   cases h
   have hg:=of_decide_eq_true hd
   subst hg
   exact ⟨b, rfl, by simp⟩
  | false =>
   rw [hd] at h
   obtain ⟨j', h', rfl⟩:=om h
   obtain ⟨b', q1, q2⟩:=fix_look (by simpa using hl) h'
   have hg:=of_decide_eq_false hd
   refine ⟨b', by simpa using q1, ?_⟩
   have : (f == g) = false:=by simpa using fun z => hg z.symm
   simp only [List.map_cons, List.zip_cons_cons, List.lookup_cons, this]
   exact q2
def noName (m : Str) (fs : List (Str × List D)) : Bool:=fs.all fun p => !decide (p.1 = m)
theorem noName_look {m : Str} : ∀ {fs : List (Str × List D)} {bs : List Addr}, noName m fs = true → ((fs.map (·.1)).zip (bs.map V.ref)).lookup m = none
 | [], _, _ => by simp
 | _ :: _, [], _ => by simp
 | (g, xs) :: fs, b :: bs, h => by
  unfold noName at h
  rw [List.all_cons] at h
  obtain ⟨h1, h2⟩:=Bool.and_eq_true_iff.mp h
  have : (m == g) = false:=by
   have z : ¬ g = m:=by simpa using h1
   simpa using fun q => z q.symm
  simp only [List.map_cons, List.zip_cons_cons, List.lookup_cons, this]
  exact noName_look h2
section
variable {T : Tb} {X : Cx} {Wx : WX} {a e : Expr} {es : List Expr} {fa : FE} {ga : FA} {pos p apos : Pos} {c : Str} {fl ml : List Str}
def fFld (c f : Str) (fa : FE) : FE:=fun ρ S => (fa ρ S).bind fun w S1 => R.lift ((insW c S1 w).bind fun q => (fix_ f q.2).map fun j => .loc q.1 (j + 2)) S1
theorem je_fld {f : Str} (hT : ∀ c : Str, T.cls c = some (He.ga X.K c)) (I : InC X.K c fl ml) (hf : f ∈ fl) (ha : JE T X Wx a fa) (hb : attributeBase a f X.env (eval a X.env) = eval a X.env:=by rfl) : JE T X Wx (.Attribute a f pos) (fFld c f fa):=by
 obtain ⟨t, h1, s1⟩:=ha
 refine ⟨_, pe_fld h1 hb, fun G F A S H σ ρ Q hw hs hp => ?_⟩
 refine s1 G F A S H σ ρ _ hw hs (hp.bind fun w S1 F1 A1 H1 v1 e1 p1 w1 r1 hp1 => ?_)
 obtain ⟨w', h2, q⟩:=hp1.lift
 obtain ⟨⟨k, fs⟩, h3, h2⟩:=ob h2
 obtain ⟨j, h4, rfl⟩:=om h2
 obtain ⟨rfl, o, dx, bs, rfl, g1, g2, g3, _⟩:=insW_rep (T:=T.g G) hT w1 r1 h3
 obtain ⟨b, hb1, hb2⟩:=fix_look g3 h4
 exact ⟨o, _, dx, _, _, rfl, g2, I.cl, I.no f hf, hb2, q F1 A1 H1 _ (Evl.Ex.refl _) (Pre.refl _) w1 ⟨_, b, g1, by simpa using hb1, rfl⟩⟩
theorem je_appendF {apos cpos : Pos} (ho : JE T X Wx a fa) (ha : JA T X Wx [e] ga) (hbase : attributeBase a "append" X.env (eval a X.env) = eval a X.env:=by rfl)
  (hline : (apos.endLine == cpos.line) = true:=by rfl) (hs : starEach [e] X.env = (false, eval e X.env) :: starEach [] X.env:=by rfl)
  (hfew : ((backTo cpos (starEach [e] X.env)).all (fun x => !x.1) && (backToKw cpos (keywordEach [] X.env)).all (fun x => x.1.isSome) && decide ([e].length + ([] : List Keyword).length + (if ([] : List Keyword).isEmpty then 0 else 1) < 30)) = true:=by rfl) :
  JE T X Wx (.Call (.Attribute a "append" apos) [e] [] cpos) (fMeth mAppendF fa ga):=je_meth F.slot_list_append F.type_list_append mt_append m_appendF ho ha hbase hfew hline hs rfl
end
end Vz
namespace Vz
open PySem PySem.Spec PyProof.Rows L2
section
variable {X : Cx} {CX : CXT} {k : Nat} {f C : Addr} {fd : FuncData} {ps ks : List Str} {sp : Sp} {E : L2.St → XK} {m : Str} {pos apos : Pos} {e o : Expr} {es : List Expr} {t tk : TA} {ta : TE} {kws : List Keyword} {dvs : List V} {ds : List Value}
def tMetQ (C : Addr) (m : Str) (sp : Sp) (gV : List V → List V) (E : L2.St → XK) (ta : TE) (t : TA) : TE:=fun σ H Q => ta σ H fun x H1 => ∃ a dx fs, x = .ref a ∧ H1 a = some (.ins C dx fs) ∧ fs.lookup m = none ∧ t σ H1 fun vs H2 => sp (x :: gV vs) H2 Q (E σ)
theorem pe_metQ {pl : Sem Bool} (he : PE X o ta) (c : Cls X.K C) (hm : Meth X.K C m f) (F : FnK X.prog X.w X.K X.mg X.base CX k f fd ps sp) (hr : Room k X.A) (hf : Free X.A) (hb : Binds X.K fd ps ds) (hd : Vals dvs ds) (hx : ∀ σ, PassesAt CX X σ (E σ)) (ha : PA X (e :: es) t)
  (hst : starEach (e :: es) X.env = (false, eval e X.env) :: starEach es X.env:=by rfl) (hpl : (backTo pos (starEach es X.env)).any (·.1) = false:=by rfl)
  (ht : eval (.Call (.Attribute o m apos) (e :: es) [] pos) X.env = (do
   let ov ← eval o X.env
   standAt apos.atName
   let (f, first) ← holding [ov] (getMethod ov m pl)
   callWith pos f first (backTo pos (starEach (e :: es) X.env)) (backToKw pos (keywordEach [] X.env))):=by rfl) :
  PE X (.Call (.Attribute o m apos) (e :: es) [] pos) (tMetQ C m sp (fun vs => vs ++ dvs) E ta t):=by
 refine ⟨fun pins s σ H Q I h => ?_⟩
 refine PySem.W.methodCall_KW (pl:=pl) (thn (he.run pins s σ H _ I h) fun u s1 ⟨x, H1, I1, rx, a, dx, fs, ex, ea, l, q⟩ => ?_) ht
 subst ex
 obtain rfl : u = Value.ref a:=rx
 refine getmeth_ok I1 ea c hm l ?_
 refine PySem.W.callWith_K (first:=[.ref a]) (h₀:=X.base) I.ok.mod.kin hm.kp (thn (ha.run pos pins s1 σ H1 _ I1 q) ?_) hst hpl
 rintro us s2 ⟨vs, H2, I2, r, q2⟩
 refine ⟨I2.kIn, goK (us:=.ref a :: us) (ks:=[]) (as:=[]) (bs:=.ref a :: (us ++ ds)) F hr hf (hx σ) I2 (fun hl => ?_) (.cons (show RelV (.ref a) (.ref a) from rfl) (r.append hd)) q2⟩
 have b:=hb s2 (.ref a :: us) I2.kIn (by simpa using hl)
 simpa using b
theorem pe_metQ0 {pl : Sem Bool} (he : PE X o ta) (c : Cls X.K C) (hm : Meth X.K C m f) (F : FnK X.prog X.w X.K X.mg X.base CX k f fd ps sp) (hr : Room k X.A) (hf : Free X.A) (hb : Binds X.K fd ps ds) (hd : Vals dvs ds) (hx : ∀ σ, PassesAt CX X σ (E σ))
  (ht : eval (.Call (.Attribute o m apos) [] [] pos) X.env = (do
   let ov ← eval o X.env
   standAt apos.atName
   let (f, first) ← holding [ov] (getMethod ov m pl)
   callWith pos f first (backTo pos (starEach [] X.env)) (backToKw pos (keywordEach [] X.env))):=by rfl) :
  PE X (.Call (.Attribute o m apos) [] [] pos) (tMetQ C m sp (fun vs => vs ++ dvs) E ta tNil):=by
 refine ⟨fun pins s σ H Q I h => ?_⟩
 refine PySem.W.methodCall_KW (pl:=pl) (thn (he.run pins s σ H _ I h) fun u s1 ⟨x, H1, I1, rx, a, dx, fs, ex, ea, l, q⟩ => ?_) ht
 subst ex
 obtain rfl : u = Value.ref a:=rx
 refine getmeth_ok I1 ea c hm l ?_
 refine PySem.W.callWith_K0 (first:=[.ref a]) I1.kIn hm.kp (goK (us:=[.ref a]) (ks:=[]) (as:=[]) (bs:=.ref a :: ds) F hr hf (hx σ) I1 (fun hl => ?_) (.cons (show RelV (.ref a) (.ref a) from rfl) hd) q)
 have b:=hb s1 [.ref a] I1.kIn (by simpa using hl)
 simpa using b
end
structure OkM (T : Tb) (P : Program) (w : World) (K : PySem.W.Frag) (mg : Str → Option Value) (base : Heap) (k : Nat) (c m : Str) (ps : List Str) (dv : List D) (f : List W → Sto → R W) : Prop where
 ex : ∃ fd, FnK P w K mg base (L2.CX P w) k (He.ma K (He.ga K c) m) fd ps (spV T K ps.length f) ∧ Binds K fd ps [] ∧ (∃ vs ds, dv.map flatD = vs.map some ∧ Vals vs ds ∧ Binds K fd ps ds) ∧ ∃ oc od osl, K.lookup (He.ma K (He.ga K c) m) = some ⟨oc, od, .func fd, osl⟩
 cl : Cls K (He.ga K c)
 me : Meth K (He.ga K c) m (He.ma K (He.ga K c) m)
theorem prd_app {α β : Type} {R : α → β → Prop} : ∀ {xs xs' : List α} {ys ys' : List β}, Paired R xs ys → Paired R xs' ys' → Paired R (xs ++ xs') (ys ++ ys')
 | _, _, _, _, .nil, h => h
 | _, _, _, _, .cons a r, h => .cons a (prd_app r h)
theorem flat_rws {K : PySem.W.Frag} {F : Hp} {A : List (List Addr)} : ∀ {dv : List D} {vs : List V}, dv.map flatD = vs.map some → RepWs K F A (dv.map W.dat) vs
 | [], [], _ => .nil
 | [], _ :: _, h => by simp at h
 | _ :: _, [], h => by simp at h
 | d :: dv, v :: vs, h => by
  simp only [List.map_cons, List.cons.injEq] at h
  exact .cons (show Rep K F d v from .of_flat h.1) (flat_rws h.2)
section
variable {T : Tb} {X : Cx} {Wx : WX} {a e : Expr} {es : List Expr} {fa : FE} {ga : FA} {pos p apos : Pos} {c m : Str} {k n : Nat} {ps : List Str} {dv : List D} {g : List W → Sto → R W}
def fMet (c m : Str) (n : Nat) (dv : List D) (g : List W → Sto → R W) (fa : FE) (ga : FA) : FE:=fun ρ S => (fa ρ S).bind fun w S1 => match insW c S1 w with
 | some q => (match noName m q.2 with
  | true => (ga ρ S1).bind fun ws S2 => (match decide (ws.length = n) with
   | true => g (w :: (ws ++ dv.map W.dat)) S2
   | false => .bad)
  | false => .bad)
 | none => .bad
theorem semE_met {t : TE} {u : TA} {dvs : List V} (hT : ∀ c : Str, T.cls c = some (He.ga X.K c)) (hd : dv.map flatD = dvs.map some) (s1 : SemE T X.K Wx t fa) (s2 : SemA T X.K Wx u ga) (hn : n + dv.length + 1 = ps.length) :
  SemE T X.K Wx (tMetQ (He.ga X.K c) m (spV T X.K ps.length g) (fun vs => vs ++ dvs) (WE Wx) t u) (fMet c m n dv g fa ga):=by
 intro G F A S H σ ρ Q hw hs hp
 refine s1 G F A S H σ ρ _ hw hs (hp.bind fun w S1 F1 A1 H1 v1 e1 p1 w1 r1 hp1 => ?_)
 cases h3 : insW c S1 w with
 | none => rw [h3] at hp1; exact hp1.elim
 | some q =>
  obtain ⟨kk, fs⟩:=q
  rw [h3] at hp1
  dsimp only at hp1
  cases h4 : noName m fs with
  | false => rw [h4] at hp1; exact hp1.elim
  | true =>
   rw [h4] at hp1
   dsimp only at hp1
   obtain ⟨rfl, o, dx, bs, rfl, g1, g2, g3, _⟩:=insW_rep (T:=T.g G) hT w1 r1 h3
   refine ⟨o, dx, _, rfl, g2, noName_look h4, ?_⟩
   refine s2 G F1 A1 S1 H1 σ ρ _ w1 (hs.mono e1 p1) (hp1.bind fun ws S2 F2 A2 H2 v2 e2 p2 w2 r2 hp2 => ?_)
   cases h5 : decide (ws.length = n) with
   | false => rw [h5] at hp2; exact hp2.elim
   | true =>
    rw [h5] at hp2
    have hl:=of_decide_eq_true h5
    refine ⟨G, F2, A2, S2, _, ?_, w2, .cons (r1.mono e2 p2) (prd_app r2 (flat_rws hd)), hp2⟩
    simp
    omega
theorem je_met (hT : ∀ c : Str, T.cls c = some (He.ga X.K c)) (O : OkM T X.prog X.w X.K X.mg X.base k c m ps dv g) (hr : Room k X.A) (hf : Free X.A) (tk : Takes X Wx) (ho : JE T X Wx a fa) (ha : JA T X Wx (e :: es) ga) {pl : Sem Bool} (hn : n + 1 = ps.length:=by rfl)
  (hst : starEach (e :: es) X.env = (false, eval e X.env) :: starEach es X.env:=by rfl) (hpl : (backTo pos (starEach es X.env)).any (·.1) = false:=by rfl)
  (ht : eval (.Call (.Attribute a m apos) (e :: es) [] pos) X.env = (do
   let ov ← eval a X.env
   standAt apos.atName
   let (f, first) ← holding [ov] (getMethod ov m pl)
   callWith pos f first (backTo pos (starEach (e :: es) X.env)) (backToKw pos (keywordEach [] X.env))):=by rfl) :
  JE T X Wx (.Call (.Attribute a m apos) (e :: es) [] pos) (fMet c m n [] g fa ga):=by
 obtain ⟨fd, h1, h2, _, _⟩:=O.ex
 obtain ⟨t, a1, s1⟩:=ho
 obtain ⟨u, a2, s2⟩:=ha
 exact ⟨_, pe_metQ a1 O.cl O.me h1 hr hf h2 .nil (fun σ => passAt tk σ) a2 hst hpl ht, semE_met hT rfl s1 s2 hn⟩
theorem je_metD (hT : ∀ c : Str, T.cls c = some (He.ga X.K c)) (O : OkM T X.prog X.w X.K X.mg X.base k c m ps dv g) (hr : Room k X.A) (hf : Free X.A) (tk : Takes X Wx) (ho : JE T X Wx a fa) (ha : JA T X Wx (e :: es) ga) {pl : Sem Bool} (hn : n + dv.length + 1 = ps.length:=by rfl)
  (hst : starEach (e :: es) X.env = (false, eval e X.env) :: starEach es X.env:=by rfl) (hpl : (backTo pos (starEach es X.env)).any (·.1) = false:=by rfl)
  (ht : eval (.Call (.Attribute a m apos) (e :: es) [] pos) X.env = (do
   let ov ← eval a X.env
   standAt apos.atName
   let (f, first) ← holding [ov] (getMethod ov m pl)
   callWith pos f first (backTo pos (starEach (e :: es) X.env)) (backToKw pos (keywordEach [] X.env))):=by rfl) :
  JE T X Wx (.Call (.Attribute a m apos) (e :: es) [] pos) (fMet c m n dv g fa ga):=by
 obtain ⟨fd, h1, _, ⟨vs, ds, h2, h3, h4⟩, _⟩:=O.ex
 obtain ⟨t, a1, s1⟩:=ho
 obtain ⟨u, a2, s2⟩:=ha
 exact ⟨_, pe_metQ a1 O.cl O.me h1 hr hf h4 h3 (fun σ => passAt tk σ) a2 hst hpl ht, semE_met hT h2 s1 s2 hn⟩
theorem je_met0 (hT : ∀ c : Str, T.cls c = some (He.ga X.K c)) (O : OkM T X.prog X.w X.K X.mg X.base k c m ps dv g) (hr : Room k X.A) (hf : Free X.A) (tk : Takes X Wx) (ho : JE T X Wx a fa) {pl : Sem Bool} (hn : 1 = ps.length:=by rfl)
  (ht : eval (.Call (.Attribute a m apos) [] [] pos) X.env = (do
   let ov ← eval a X.env
   standAt apos.atName
   let (f, first) ← holding [ov] (getMethod ov m pl)
   callWith pos f first (backTo pos (starEach [] X.env)) (backToKw pos (keywordEach [] X.env))):=by rfl) :
  JE T X Wx (.Call (.Attribute a m apos) [] [] pos) (fMet c m 0 [] g fa aNil):=by
 obtain ⟨fd, h1, h2, _, _⟩:=O.ex
 obtain ⟨t, a1, s1⟩:=ho
 refine ⟨_, pe_metQ0 (dvs:=[]) a1 O.cl O.me h1 hr hf h2 .nil (fun σ => passAt tk σ) ht, semE_met (dvs:=[]) hT rfl s1 (fun G F A S H σ ρ Q hw hs hp => ?_) (by simpa using hn)⟩
 exact hp F A H [] (Evl.Ex.refl _) (Pre.refl _) hw .nil
end
theorem ok_defM {T : Tb} {P : Program} {w : World} {K : PySem.W.Frag} {mg : Str → Option Value} {base : Heap} {k : Nat} {ps : List Str} {x c m qual : Str} {params : Arguments} {body : List Stmt} {scope : Scope} {dvs : List V} {dv : List D} {N : List Str} {g : FS} (cc : Bool) (hF : ∃ fd, FunD K x qual params body scope dvs [] (He.ma K (He.ga K c) m) fd) (hc : Cls K (He.ga K c)) (hm : Meth K (He.ga K c) m (He.ma K (He.ga K c) m)) (S : FnScope N ps scope)
  (hb : ∀ fd, FunD K x qual params body scope dvs [] (He.ma K (He.ga K c) m) fd → Binds K fd ps []) (hbd : ∀ fd, FunD K x qual params body scope dvs [] (He.ma K (He.ga K c) m) fd → ∃ vs ds, dv.map flatD = vs.map some ∧ Vals vs ds ∧ Binds K fd ps ds)
  (h : ∀ (cdv : Value) (A : Around) (outer : List PySem.Env) (s : Shared) (H : Hp) (E : XK), Room k (A.deeper (envOfC qual scope s.heap.objs.size (He.ma K (He.ga K c) m) cdv)) → Free (A.deeper (envOfC qual scope s.heap.objs.size (He.ma K (He.ga K c) m) cdv)) → Takes (cxOf (L2.CX P w) P w K mg base N qual scope (He.ma K (He.ga K c) m) cdv A outer s H E) (fun cls d _ H' => E cls d H') →
   PassesOwn (model P w) (cxOf (L2.CX P w) P w K mg base N qual scope (He.ma K (He.ga K c) m) cdv A outer s H E).A (cxOf (L2.CX P w) P w K mg base N qual scope (He.ma K (He.ga K c) m) cdv A outer s H E).env (cxOf (L2.CX P w) P w K mg base N qual scope (He.ma K (He.ga K c) m) cdv A outer s H E).xe →
   JB T (cxOf (L2.CX P w) P w K mg base N qual scope (He.ma K (He.ga K c) m) cdv A outer s H E) (fun cls d _ H' => E cls d H') body g) :
  OkM T P w K mg base (k + 1) c m ps dv (runF N.length cc g):=by
 obtain ⟨fd, F⟩:=hF
 obtain ⟨oc, od, dV, kV, doc, pm, an, cdv, ct, osl, e, hl, hcd, _, _⟩:=F.ex
 refine ⟨⟨fd, ?_, hb fd F, hbd fd F, oc, od, osl, hl⟩, hc, hm⟩
 subst e
 refine fnK_of hl hcd S (fun vs H Q E hsp => ?_) fun A outer s H vs Q E hr hf hsp => ?_
 ·obtain ⟨G, F, A, S, ws, hn, hw, hr, hp⟩:=hsp
  rw [← rws_len hr]
  exact hn
 ·obtain ⟨t, h1, s1⟩:=(h cdv A outer s H E hr hf (L2.takes_of rfl rfl rfl rfl) (L2.passes_of rfl)).ex
  exact ⟨t, h1, semF s1 hsp⟩
end Vz
namespace Vz
open PySem PySem.Spec PyProof.Rows L2
abbrev TR:=(V → L2.St → Hp → Prop) → L2.St → Hp → Prop
structure PRr (X : Cx) (body : List Stmt) (t : TR) : Prop where
 run : ∀ (pins : List (Addr × Obj)) (s : Shared) (σ : L2.St) (H : Hp) (D : V → L2.St → Hp → Prop) (Q : Flow → Shared → Prop), Inv X pins σ H s → t D σ H → (∀ u v s' σ' H', Inv X pins σ' H' s' → RelV v u → D v σ' H' → Q (.ret u) s') →
  wpAny (model X.prog X.w) X.A (execs body X.env) Q X.xe s
section
variable {X : Cx} {e : Expr} {te : TE} {st : Stmt} {body : List Stmt} {t1 : TS} {t2 : TR} {rp : Pos}
theorem prr_ret (he : PE X e te) : PRr X [.Return (some e) rp] (fun D σ H => te σ H fun v H1 => D v σ H1):=by
 refine ⟨fun pins s σ H D Q I h fin => ?_⟩
 refine wpAny_execs_cons (wpAny_Return_some (thn (he.run pins s σ H _ I h) fun u s1 z => ?_))
 obtain ⟨v, H1, I1, r1, q1⟩:=z
 exact fin _ _ _ _ _ I1 r1 q1
theorem prr_cons (h1 : PS X st t1) (h2 : PRr X body t2) : PRr X (st :: body) (fun D σ H => t1 { nx:=fun σ1 H1 => t2 D σ1 H1, rt:=fun _ _ => False } σ H):=by
 refine ⟨fun pins s σ H D Q I h fin => ?_⟩
 refine wpAny_execs_cons (thn (h1.run pins s σ H _ I h) fun f s1 z => ?_)
 cases f with
 | next =>
  obtain ⟨σ1, H1, I1, q⟩:=z
  exact h2.run pins s1 σ1 H1 D Q I1 q fin
 | ret u =>
  obtain ⟨_, _, _, _, _, q⟩:=z
  exact q.elim
 | brk =>
  obtain ⟨_, _, _, q⟩:=z
  exact q.elim
 | cont =>
  obtain ⟨_, _, _, q⟩:=z
  exact q.elim
end
def tFinR (tb : WX → TR) (tf tfs : TS) (Wout : WX) : TS:=fun D σ H => tb (wFin tfs Wout) (fun v σ1 H1 => tf { D with nx:=fun _ H2 => D.rt v H2 } σ1 H1) σ H
theorem ps_finR {X : Cx} {body : List Stmt} {f₀ : Stmt} {fs : List Stmt} {pos : Pos} {tb : WX → TR} {tf tfs : TS} {Wout : WX} (hs : X.stack = X.env :: X.outer) (hf : X.env.frame = some X.env.locals) (hex : X.ex = []) (tk : Takes X Wout)
  (hb : ∀ (W : WX) (pn : List (Addr × Obj)) (xe : Value → Shared → Prop), Takes (X.tr pn xe) W → PassesOwn (model X.prog X.w) X.A X.env xe → PRr (X.tr pn xe) body (tb W))
  (hfin : PSs X.nox (f₀ :: fs) tf) (hsu : ∀ (a : Addr) (pn : List (Addr × Obj)), PSs (X.suite a pn) (f₀ :: fs) tfs) : PS X (.Try body [] [] (f₀ :: fs) pos) (tFinR tb tf tfs Wout):=by
 refine ⟨fun pins s σ H D I h => ?_⟩
 have ok:=I.ok
 have hfr : X.A.frames = some (X.env :: X.outer):=by rw [ok.frames, hs]
 refine wpAny_Try_finally ?_
 refine (hb (wFin tfs Wout) (X.pn ++ pins) (fun x s₁ => wpAny (model X.prog X.w) X.A (noteFrame x X.env) (fun _ s₂ => FinallyRaised X.prog X.w X.A X.xe X.env (f₀ :: fs) (SP X pins D) x s₂) (FinallyRaised X.prog X.w X.A X.xe X.env (f₀ :: fs) (SP X pins D)) s₁)
  (fun u s' xx => fin_exc hs hf hex ok tk hsu xx) PassesOwn.looking).run [] s σ H _ _ (I.toTry _) h fun u v s1 σ1 H1 I1 r1 q1 => ?_
 exact fin_ret hfin (I1.ofTry ok) r1 q1
inductive OutR where
 | rt (w : W) (ρ : Rho) (S : Sto)
 | exc (x : Exn) (ρ : Rho) (S : Sto)
 | bad
abbrev FR:=Rho → Sto → OutR
def PostR (T : Tb) (K : PySem.W.Frag) (F : Hp) (A : List (List Addr)) (r : OutR) (D : V → L2.St → Hp → Prop) (Wx : WX) : Prop :=
 match r with
 | .rt w ρ S => ∀ F' A' H' σ v, Ex F F' → Pre A A' → Wd T K F' A' S H' → Sl K F' A' ρ σ → RepW K F' A' w v → D v σ H'
 | .exc x ρ S => ∀ F' A' H' σ cls d, Ex F F' → Pre A A' → Wd T K F' A' S H' → Sl K F' A' ρ σ → RepX T K F' x cls d → Wx cls d σ H'
 | .bad => False
def SemR (T : Tb) (K : PySem.W.Frag) (Wx : WX) (t : TR) (f : FR) : Prop:=∀ G F A S H σ ρ D, Wd (T.g G) K F A S H → Sl K F A ρ σ → PostR (T.g G) K F A (f ρ S) D Wx → t D σ H
structure JR (T : Tb) (X : Cx) (Wx : WX) (body : List Stmt) (f : FR) : Prop where
 ex : ∃ t, PRr X body t ∧ SemR T X.K Wx t f
theorem PostR.shift {T : Tb} {K : PySem.W.Frag} {F F' : Hp} {A A' : List (List Addr)} {r : OutR} {D : V → L2.St → Hp → Prop} {Wx : WX} (h : PostR T K F A r D Wx) (e : Ex F F') (p : Pre A A') : PostR T K F' A' r D Wx:=by
 cases r with
 | rt w ρ S => exact fun F2 A2 H2 σ v e2 p2 => h F2 A2 H2 σ v (e.trans e2) (p.trans p2)
 | exc x ρ S => exact fun F2 A2 H2 σ c d e2 p2 => h F2 A2 H2 σ c d (e.trans e2) (p.trans p2)
 | bad => exact h
section
variable {T : Tb} {X : Cx} {Wx : WX} {e : Expr} {f : FE} {st : Stmt} {g : FS} {gr : FR} {body : List Stmt} {rp pos : Pos}
def rRet (f : FE) : FR:=fun ρ S => match f ρ S with
 | .ok w S1 => .rt w ρ S1
 | .exc x S1 => .exc x ρ S1
 | .bad => .bad
theorem jr_ret (he : JE T X Wx e f) : JR T X Wx [.Return (some e) rp] (rRet f):=by
 obtain ⟨t, h1, s1⟩:=he
 refine ⟨_, prr_ret h1, fun G F A S H σ ρ D hw hs hp => ?_⟩
 refine s1 G F A S H σ ρ _ hw hs ?_
 unfold rRet at hp
 cases q : f ρ S with
 | ok w S1 => rw [q] at hp; exact fun F' A' H' v e p w' r => hp F' A' H' σ v e p w' (hs.mono e p) r
 | exc x S1 => rw [q] at hp; exact fun F' A' H' c d e p w' r => hp F' A' H' σ c d e p w' (hs.mono e p) r
 | bad => rw [q] at hp; exact hp.elim
def rSeq (g : FS) (h : FR) : FR:=fun ρ S => match g ρ S with
 | .nx ρ1 S1 => h ρ1 S1
 | .exc x ρ1 S1 => .exc x ρ1 S1
 | _ => .bad
theorem jr_cons (h1 : JS T X Wx st g) (h2 : JR T X Wx body gr) : JR T X Wx (st :: body) (rSeq g gr):=by
 obtain ⟨t, h1, s1⟩:=h1
 obtain ⟨u, h2, s2⟩:=h2
 refine ⟨_, prr_cons h1 h2, fun G F A S H σ ρ D hw hs hp => ?_⟩
 refine s1 G F A S H σ ρ _ hw hs ?_
 unfold rSeq at hp
 cases q : g ρ S with
 | nx ρ1 S1 => rw [q] at hp; exact fun F' A' H' σ' e p w' s' => s2 G F' A' S1 H' σ' ρ1 D w' s' (hp.shift e p)
 | exc x ρ1 S1 => rw [q] at hp; exact hp
 | bk _ _ => rw [q] at hp; exact hp.elim
 | ct _ _ => rw [q] at hp; exact hp.elim
 | rt _ _ => rw [q] at hp; exact hp.elim
 | bad => rw [q] at hp; exact hp.elim
def sFin (gr : FR) (gf : FS) : FS:=fun ρ S => match gr ρ S with
 | .rt w ρ1 S1 => (match gf ρ1 S1 with
  | .nx _ S2 => .rt w S2
  | _ => .bad)
 | .exc x ρ1 S1 => (match gf ρ1 S1 with
  | .nx ρ2 S2 => .exc x ρ2 S2
  | _ => .bad)
 | .bad => .bad
theorem RepX.mono {K : PySem.W.Frag} {F F' : Hp} {x : Exn} {cls : Value} {d : Option Addr} (h : RepX T K F x cls d) (e : Ex F F') : RepX T K F' x cls d:=by
 obtain ⟨ca, h1, h2, h3⟩:=h
 refine ⟨ca, h1, h2, ?_⟩
 rcases h3 with h3 | ⟨dd, vfs, h3, h4, h5⟩
 ·exact .inl h3
 ·exact .inr ⟨dd, vfs, h3, e _ _ h4, Paired.mapP h5 fun _ _ q => ⟨q.1, q.2.mono e⟩⟩
theorem js_fin {f₀ : Stmt} {fs : List Stmt} {gf : FS} (hs : X.stack = X.env :: X.outer) (hf : X.env.frame = some X.env.locals) (hex : X.ex = []) (tk : Takes X Wx)
  (hb : ∀ (W : WX) (pn : List (Addr × Obj)) (xe : Value → Shared → Prop), Takes (X.tr pn xe) W → PassesOwn (model X.prog X.w) X.A X.env xe → JR T (X.tr pn xe) W body gr)
  (hfin : JB T X.nox noW (f₀ :: fs) gf) (hsu : ∀ (a : Addr) (pn : List (Addr × Obj)), JB T (X.suite a pn) noW (f₀ :: fs) gf) : JS T X Wx (.Try body [] [] (f₀ :: fs) pos) (sFin gr gf):=by
 have hb' : ∀ (W : WX) (pn : List (Addr × Obj)) (xe : Value → Shared → Prop), Takes (X.tr pn xe) W → PassesOwn (model X.prog X.w) X.A X.env xe → PRr (X.tr pn xe) body (fun D σ H => ∃ G F A S ρ, Wd (T.g G) X.K F A S H ∧ Sl X.K F A ρ σ ∧ PostR (T.g G) X.K F A (gr ρ S) D W):=by
  intro W pn xe h1 h2
  obtain ⟨t, h3, h4⟩:=hb W pn xe h1 h2
  exact ⟨fun pins s σ H D Q I ⟨G, F, A, S, ρ, hw, hs, hp⟩ fin => h3.run pins s σ H D Q I (h4 G F A S H σ ρ D hw hs hp) fin⟩
 have hsu' : ∀ (a : Addr) (pn : List (Addr × Obj)), PSs (X.suite a pn) (f₀ :: fs) (cS T X.K noW gf):=fun a pn => (hsu a pn).pss
 refine ⟨_, ps_finR hs hf hex tk hb' hfin.pss hsu', fun G F A S H σ ρ D hw hs hp => ?_⟩
 refine ⟨G, F, A, S, ρ, hw, hs, ?_⟩
 unfold sFin at hp
 cases q : gr ρ S with
 | bad => rw [q] at hp; exact hp.elim
 | rt w ρ1 S1 =>
  rw [q] at hp
  dsimp only at hp
  intro F1 A1 H1 σ1 v e1 p1 w1 s1 r1
  refine ⟨G, F1, A1, S1, ρ1, w1, s1, ?_⟩
  cases q2 : gf ρ1 S1 with
  | nx ρ2 S2 =>
   rw [q2] at hp
   exact fun F2 A2 H2 σ2 e2 p2 w2 s2 => hp F2 A2 H2 v (e1.trans e2) (p1.trans p2) w2 (r1.mono e2 p2)
  | rt _ _ => rw [q2] at hp; exact hp.elim
  | bk _ _ => rw [q2] at hp; exact hp.elim
  | ct _ _ => rw [q2] at hp; exact hp.elim
  | exc _ _ _ => rw [q2] at hp; exact hp.elim
  | bad => rw [q2] at hp; exact hp.elim
 | exc x ρ1 S1 =>
  rw [q] at hp
  dsimp only at hp
  intro F1 A1 H1 σ1 cls d e1 p1 w1 s1 rx
  refine ⟨G, F1, A1, S1, ρ1, w1, s1, ?_⟩
  cases q2 : gf ρ1 S1 with
  | nx ρ2 S2 =>
   rw [q2] at hp
   exact fun F2 A2 H2 σ2 e2 p2 w2 s2 => hp F2 A2 H2 σ2 cls d (e1.trans e2) (p1.trans p2) w2 s2 (rx.mono e2)
  | rt _ _ => rw [q2] at hp; exact hp.elim
  | bk _ _ => rw [q2] at hp; exact hp.elim
  | ct _ _ => rw [q2] at hp; exact hp.elim
  | exc _ _ _ => rw [q2] at hp; exact hp.elim
  | bad => rw [q2] at hp; exact hp.elim
end
end Vz
namespace Vz
open PySem PySem.Spec PyProof.Rows L2
structure Ini (T : Tb) (K : PySem.W.Frag) (F : Hp) (A : List (List Addr)) (S : Sto) (H G : Hp) (x dx ca : Addr) (fs : List (Str × List D)) (bs : List Addr) : Prop where
 w : Wd (T.g G) K F A S H
 nd : (x :: dx :: bs).Nodup
 hx : H x = some (.ins ca dx ((fs.map (·.1)).zip (bs.map V.ref)))
 hdx : H dx = some (.own x)
 f : ∀ b ∈ x :: dx :: bs, F b = none ∧ G b = none ∧ b ∉ A.flatten
 p : Paired (FieldP K F H) fs bs
section
variable {T : Tb} {K : PySem.W.Frag} {F H G : Hp} {A : List (List Addr)} {S : Sto} {x dx ca : Addr} {fs : List (Str × List D)} {bs : List Addr}
theorem Wd.lessG {G' : Hp} (e : Ex G G') (w : Wd (T.g G') K F A S H) : Wd (T.g G) K F A S H :=
 ⟨w.sub, w.len, w.ok, w.nod, w.there, e.trans w.gh, fun a ha => Evl.fresh_back e (w.gd a ha), fun a u h => (w.fg a u h).imp (Evl.fresh_back e) id, ⟨w.tb.tabs, w.tb.f, fun q hq => Evl.fresh_back e (w.tb.g q hq), w.tb.a, w.tb.nf, fun b ps z => w.tb.ng b ps (e b _ z), w.tb.na⟩⟩
theorem still_all : ∀ {as : List Addr} {G : Hp}, Wd (T.g G) K F A S H → as.Nodup → (∀ b ∈ as, (∃ o, H b = some o ∧ ∀ ps, o ≠ .tbl ps) ∧ F b = none ∧ G b = none ∧ b ∉ A.flatten) → ∃ G', Wd (T.g G') K F A S H ∧ Ex G G' ∧ ∀ b ∈ as, G' b = H b
 | [], G, w, _, _ => ⟨G, w, Evl.Ex.refl G, fun b hb => nomatch hb⟩
 | a :: as, G, w, nd, h => by
  obtain ⟨n1, n2⟩:=List.nodup_cons.mp nd
  obtain ⟨h1, h2, h3, h4⟩:=h a (List.mem_cons_self ..)
  obtain ⟨o, ho, hn⟩:=h1
  have w1:=w.still ho h2 h3 h4 hn
  obtain ⟨G', w', e', q⟩:=still_all (as:=as) w1 n2 fun b hb => by
   obtain ⟨k1, k2, k3, k4⟩:=h b (List.mem_cons_of_mem _ hb)
   refine ⟨k1, k2, ?_, k4⟩
   rw [upd_ne (fun z => n1 (by rw [← z]; exact hb))]
   exact k3
  refine ⟨G', w', (Evl.Ex.new h3).trans e', fun b hb => ?_⟩
  rcases List.mem_cons.mp hb with z | hb
  ·rw [z, e' a o upd_same, ho]
  ·exact q b hb
theorem fld_some : ∀ {fs : List (Str × List D)} {bs : List Addr}, Paired (FieldP K F H) fs bs → ∀ b ∈ bs, (H b).isSome
 | _, _, .nil, b, hb => nomatch hb
 | _, _, .cons ⟨_, vs, h, _⟩ r, b, hb => by
  rcases List.mem_cons.mp hb with z | hb
  ·rw [z, h]; rfl
  ·exact fld_some r b hb
theorem fld_not : ∀ {fs : List (Str × List D)} {bs : List Addr}, Paired (FieldP K F H) fs bs → ∀ b ∈ bs, ∃ o, H b = some o ∧ ∀ ps, o ≠ .tbl ps
 | _, _, .nil, b, hb => nomatch hb
 | _, _, .cons ⟨_, vs, h, _⟩ r, b, hb => by
  rcases List.mem_cons.mp hb with z | hb
  ·exact ⟨_, by rw [z]; exact h, fun _ z => by cases z⟩
  ·exact fld_not r b hb
theorem Ini.isN (I : Ini T K F A S H G x dx ca fs bs) : ∀ b ∈ x :: dx :: bs, ∃ o, H b = some o ∧ ∀ ps, o ≠ .tbl ps:=fun b hb => by
 rcases List.mem_cons.mp hb with z | hb
 ·exact ⟨_, by rw [z]; exact I.hx, fun _ z => by cases z⟩
 ·rcases List.mem_cons.mp hb with z | hb
  ·exact ⟨_, by rw [z]; exact I.hdx, fun _ z => by cases z⟩
  ·exact fld_not I.p b hb
theorem Ini.noT (I : Ini T K F A S H G x dx ca fs bs) : ∀ b ∈ x :: dx :: bs, ∀ ps, H b ≠ some (.tbl ps):=fun b m ps z => by
 obtain ⟨o, h1, h2⟩:=I.isN _ m
 rw [h1] at z
 exact h2 ps (Option.some.inj z)
theorem fld_noTup : ∀ {fs : List (Str × List D)} {bs : List Addr}, Paired (FieldP K F H) fs bs → ∀ b ∈ bs, ∀ us, H b ≠ some (.tup us)
 | _, _, .nil, b, hb, _ => nomatch hb
 | _, _, .cons ⟨_, vs, h, _⟩ r, b, hb, us => by
  rcases List.mem_cons.mp hb with z | hb
  ·rw [z, h]; exact fun z => by cases z
  ·exact fld_noTup r b hb us
theorem Ini.noTup (I : Ini T K F A S H G x dx ca fs bs) : ∀ b ∈ x :: dx :: bs, ∀ us, H b ≠ some (.tup us):=fun b hb us => by
 rcases List.mem_cons.mp hb with z | hb
 ·rw [z, I.hx]; exact fun z => by cases z
 ·rcases List.mem_cons.mp hb with z | hb
  ·rw [z, I.hdx]; exact fun z => by cases z
  ·exact fld_noTup I.p b hb us
theorem Ini.isS (I : Ini T K F A S H G x dx ca fs bs) : ∀ b ∈ x :: dx :: bs, (H b).isSome:=fun b hb => by
 rcases List.mem_cons.mp hb with z | hb
 ·rw [z, I.hx]; rfl
 ·rcases List.mem_cons.mp hb with z | hb
  ·rw [z, I.hdx]; rfl
  ·exact fld_some I.p b hb
theorem Ini.start (w : Wd (T.g G) K F A S H) (hx : H x = none) (hdx : H dx = none) (ne : dx ≠ x) : Ini T K F A S (upd (upd H dx (.own x)) x (.ins ca dx [])) G x dx ca [] []:=by
 have hx' : upd H dx (.own x) x = none:=by rw [upd_ne (Ne.symm ne)]; exact hx
 refine ⟨(w.junk hdx _).junk hx' _, by simp [Ne.symm ne], upd_same, by rw [upd_ne ne]; exact upd_same, fun b hb => ?_, .nil⟩
 have hb' : H b = none:=by
  rcases List.mem_cons.mp hb with z | hb
  ·rw [z]; exact hx
  ·rcases List.mem_cons.mp hb with z | hb
   ·rw [z]; exact hdx
   ·cases hb
 refine ⟨w.freshF hb', Evl.fresh_back w.gh hb', fun z => ?_⟩
 have:=w.there b z
 rw [hb'] at this
 cases this
theorem fld_mono {F2 H2 : Hp} (e : Ex F F2) : ∀ {fs : List (Str × List D)} {bs : List Addr}, (∀ b ∈ bs, F2 b = none ∧ H2 b = H b) → Paired (FieldP K F H) fs bs → Paired (FieldP K F2 H2) fs bs
 | _, _, _, .nil => .nil
 | _, _, h, .cons ⟨h1, vs, h2, h3⟩ r => .cons ⟨(h _ (List.mem_cons_self ..)).1, vs, by rw [(h _ (List.mem_cons_self ..)).2]; exact h2, h3.mono e⟩ (fld_mono e (fun b hb => h b (List.mem_cons_of_mem _ hb)) r)
theorem Ini.hold (I : Ini T K F A S H G x dx ca fs bs) : ∃ G', Wd (T.g G') K F A S H ∧ Ex G G' ∧ (∀ b ∈ x :: dx :: bs, (G' b).isSome) ∧
  ∀ F2 A2 S2 H2, Ex F F2 → Wd (T.g G') K F2 A2 S2 H2 → Ini T K F2 A2 S2 H2 G x dx ca fs bs:=by
 obtain ⟨G', w', e', q⟩:=still_all I.w I.nd fun b hb => ⟨I.isN b hb, I.f b hb⟩
 have so : ∀ b ∈ x :: dx :: bs, (G' b).isSome:=fun b hb => by rw [q b hb]; exact I.isS b hb
 refine ⟨G', w', e', so, fun F2 A2 S2 H2 e2 w2 => ?_⟩
 have eq : ∀ b ∈ x :: dx :: bs, H2 b = H b:=fun b hb => by
  obtain ⟨o, ho⟩:=Option.isSome_iff_exists.mp (so b hb)
  rw [w2.gh b o ho, ← q b hb, ho]
 have fr : ∀ b ∈ x :: dx :: bs, F2 b = none ∧ G b = none ∧ b ∉ A2.flatten:=fun b hb => by
  obtain ⟨o, ho⟩:=Option.isSome_iff_exists.mp (so b hb)
  have ho : (T.g G').G b = some o:=ho
  refine ⟨?_, (I.f b hb).2.1, fun z => ?_⟩
  ·cases h : F2 b with
   | none => rfl
   | some u =>
    rcases w2.fg b u h with z | ⟨us, rfl⟩
    ·rw [ho] at z
     cases z
    ·have z:=w2.sub b _ h
     rw [eq b hb] at z
     exact (I.noTup b hb us z).elim
  ·have z:=w2.gd b z
   rw [ho] at z
   cases z
 refine ⟨w2.lessG e', I.nd, by rw [eq x (by simp)]; exact I.hx, by rw [eq dx (by simp)]; exact I.hdx, fr, fld_mono e2 (fun b hb => ?_) I.p⟩
 have hb' : b ∈ x :: dx :: bs:=List.mem_cons_of_mem _ (List.mem_cons_of_mem _ hb)
 exact ⟨(fr b hb').1, eq b hb'⟩
theorem putF_new {f : Str} {v : V} : ∀ {ps : List (Str × V)}, ps.lookup f = none → putF f v ps = ps ++ [(f, v)]
 | [], _ => rfl
 | (g, u) :: ps, h => by
  rw [List.lookup_cons] at h
  cases hb : (f == g) with
  | true => rw [hb] at h; cases h
  | false =>
   rw [hb] at h
   have ne : ¬ g = f:=fun z => by
    rw [z] at hb
    simp at hb
   unfold putF
   rw [if_neg ne, putF_new h]
   rfl
theorem fld_app {f : Str} {ds : List D} {p : Addr} {vs : List V} (hF : F p = none) (hp : H p = some (.lst vs)) (r : Reps K F ds vs) : ∀ {fs : List (Str × List D)} {bs : List Addr}, Paired (FieldP K F H) fs bs → Paired (FieldP K F H) (fs ++ [(f, ds)]) (bs ++ [p])
 | _, _, .nil => .cons ⟨hF, vs, hp, r⟩ .nil
 | _, _, .cons a q => .cons a (fld_app hF hp r q)
theorem Ini.add {f : Str} {ds : List D} {p : Addr} {vs : List V} (I : Ini T K F A S H G x dx ca fs bs) (hn : noName f fs = true) (hp : H p = some (.lst vs)) (r : Reps K F ds vs) (hF : F p = none) (hG : G p = none) (hA : p ∉ A.flatten) (np : p ∉ x :: dx :: bs) :
  Ini T K F A S (upd H x (.ins ca dx (putF f (.ref p) ((fs.map (·.1)).zip (bs.map V.ref))))) G x dx ca (fs ++ [(f, ds)]) (bs ++ [p]):=by
 have lb:=Paired.length I.p
 obtain ⟨n1, n2⟩:=List.nodup_cons.mp I.nd
 have fx:=I.f x (by simp)
 refine ⟨I.w.grow fx.1 fx.2.1 fx.2.2 I.hx, ?_, ?_, ?_, fun b hb => ?_, ?_⟩
 ·have : (x :: dx :: bs ++ [p]).Nodup:=by
   rw [List.nodup_append]
   exact ⟨I.nd, by simp, fun a ha b hb z => np (by
    rcases List.mem_singleton.mp hb with rfl
    rw [← z]; exact ha)⟩
  exact this
 ·rw [upd_same, putF_new (noName_look hn), List.map_append, List.map_append, List.zip_append (by simpa using lb)]
  rfl
 ·rw [upd_ne (fun z => n1 (by rw [← z]; simp))]
  exact I.hdx
 ·have hb' : b ∈ (x :: dx :: bs) ++ [p]:=hb
  rcases List.mem_append.mp hb' with hb | hb
  ·exact I.f b hb
  ·rcases List.mem_singleton.mp hb with rfl
   exact ⟨hF, hG, hA⟩
 ·have far : x ∉ bs ++ [p]:=fun z => by
   rcases List.mem_append.mp z with z | z
   ·exact n1 (List.mem_cons_of_mem _ z)
   ·rcases List.mem_singleton.mp z with rfl
    exact np (by simp)
  exact fld_far far (fld_app hF hp r I.p)
theorem Ini.adopt {c : Str} (I : Ini T K F A S H G x dx ca fs bs) (hT : T.cls c = some ca) : Wd (T.g G) K F (A ++ [x :: dx :: bs]) (S ++ [.ins c fs]) H:=by
 refine I.w.adoptM I.nd (fun b hb => (I.f b hb).2.2) I.isS (fun b hb => (I.f b hb).2.1) ?_ I.noT
 exact ⟨x, dx, bs, ca, rfl, hT, (I.f x (by simp)).1, (I.f dx (by simp)).1, I.hdx, I.hx, I.p⟩
end
def spIni (T : Tb) (K : PySem.W.Frag) (ca : Addr) (fs0 : List (Str × List D)) : Sp:=fun vs H Q E => ∃ x dx G F A S, vs = [.ref x] ∧ Ini T K F A S H G x dx ca [] [] ∧ ∀ F' H' bs, Ex F F' → Ini T K F' A S H' G x dx ca fs0 bs → Q .non H'
structure JIni (T : Tb) (X : Cx) (ca : Addr) (sts : List Stmt) (fs fs' : List (Str × List D)) : Prop where
 ex : ∃ t, PSs X sts t ∧ ∀ G F A S H σ x dx bs D, σ[0]? = some (some (V.ref x)) → Ini T X.K F A S H G x dx ca fs bs → (∀ F' H' bs', Ex F F' → Ini T X.K F' A S H' G x dx ca fs' bs' → D.nx σ H') → t D σ H
theorem pre_same {A A' : List (List Addr)} (p : Pre A A') (h : A'.length = A.length) : A' = A:=by
 have:=p.cutW
 rw [← h, List.take_length] at this
 exact this
section
variable {T : Tb} {X : Cx} {ca : Addr} {sts : List Stmt} {fs fs' : List (Str × List D)} {e : Expr} {fl : FL} {ds : List D} {f : Str} {pv pa pos : Pos}
theorem jini_nil : JIni T X ca [] fs fs:=⟨_, pss_nil, fun G F A S H σ x dx bs D _ I h => h F H bs (Evl.Ex.refl _) I⟩
theorem jini_cons (he : JL T X noW e fl) (hv : ∀ ρ S, fl ρ S = .ok ds S) (hcl : Cls X.K ca) (hno : NoAttr X.K ca f) (hn : noName f fs = true) (hl : fs.length < 1000) (hr : JIni T X ca sts (fs ++ [(f, ds)]) fs') (hN : X.N[0]? = some ("self" : Str):=by rfl) (hvis : Vis X.env.scope "self":=by first | exact Or.inl rfl | exact Or.inr (Or.inl rfl) | exact Or.inr (Or.inr rfl))
  (hs : swapsWith e (some (.Attribute (.Name "self" pv) f pa)) pos.line X.env = pure false:=by rfl) : JIni T X ca (.Assign [.Attribute (.Name "self" pv) f pa] e pos :: sts) fs fs':=by
 obtain ⟨t, h1, s1⟩:=he
 obtain ⟨u, h2, s2⟩:=hr
 refine ⟨_, pss_cons (ps_fld (pe_var hN hvis) h1 hs) h2, fun G F A S H σ x dx bs D hσ I h => ?_⟩
 obtain ⟨G', w', eG, so, back⟩:=I.hold
 refine s1 G' F A S H σ (List.replicate σ.length none) _ w' ⟨by simp, fun i w q => ?_⟩ ?_
 ·rw [List.getElem?_replicate] at q
  split at q
  ·cases q
  ·cases q
 rw [hv]
 intro F2 A2 H2 p vs e2 p2 w2 hp hF hG hA r
 have hl2 : A2.length = A.length:=by rw [w2.len, ← I.w.len]
 have eA:=pre_same p2 hl2
 subst eA
 have I2:=back F2 _ S H2 e2 w2
 have hG : G' p = none:=hG
 have np : p ∉ x :: dx :: bs:=fun z => by
  have:=so p z
  rw [hG] at this
  cases this
 refine ⟨V.ref x, hσ, x, ca, dx, _, rfl, I2.hx, hcl, hno, ?_, ?_⟩
 ·rw [List.length_zip, List.length_map]
  omega
 have I3:=I2.add hn hp r hF (Evl.fresh_back eG hG) hA np
 exact s2 G F2 _ S _ σ x dx _ _ hσ I3 fun F' H' bs' e' I' => h F' H' bs' (e2.trans e') I'
theorem fn_ini {P : Program} {w : World} {K : PySem.W.Frag} {mg : Str → Option Value} {base : Heap} {x qual : Str} {params : Arguments} {body : List Stmt} {scope : Scope} {fa : Addr} {fd : FuncData} {N : List Str} {k : Nat} {fs0 : List (Str × List D)} (F : FunD K x qual params body scope [] [] fa fd) (S : FnScope N ["self"] scope) (hN : N[0]? = some ("self" : Str))
  (h : ∀ (cdv : Value) (A : Around) (outer : List PySem.Env) (s : Shared) (H : Hp) (E : XK), Room k (A.deeper (envOfC qual scope s.heap.objs.size fa cdv)) → JIni T (cxOf (L2.CX P w) P w K mg base N qual scope fa cdv A outer s H E) ca body [] fs0) :
  FnOk P w K mg base (L2.CX P w) (k + 1) fa fd ["self"] (spIni T K ca fs0):=by
 refine F.ok S (fun vs H Q E hsp => ?_) fun cdv A outer s H vs Q E hr hsp => ?_
 ·obtain ⟨_, _, _, _, _, _, rfl, _⟩:=hsp
  rfl
 ·obtain ⟨t, h1, s1⟩:=(h cdv A outer s H E hr).ex
  obtain ⟨x, dx, G, F, A, S', rfl, I, fin⟩:=hsp
  refine ⟨t, h1, s1 G F A S' H _ x dx [] _ ?_ I fun F' H' bs e I' => fin F' H' bs e I'⟩
  cases N with
  | nil => cases hN
  | cons _ _ => rfl
end
def fMk (c : Str) (fs0 : List (Str × List D)) : FE:=fun _ S => .ok (.loc S.length 0) (S ++ [.ins c fs0])
section
variable {T : Tb} {X : Cx} {Wx : WX} {c : Str} {fs0 : List (Str × List D)} {k : Nat} {fd : FuncData} {p pos : Pos}
theorem je_mk (hT : ∀ c : Str, T.cls c = some (He.ga X.K c)) (M : Mk X.K (He.ga X.K c) (He.ma X.K (He.ga X.K c) "__init__")) (F : FnOk X.prog X.w X.K X.mg X.base (L2.CX X.prog X.w) k (He.ma X.K (He.ga X.K c) "__init__") fd ["self"] (spIni T X.K (He.ga X.K c) fs0)) (hr : Room (k + 1) X.A) (hm : X.mg c = some (.ref (He.ga X.K c)))
  (hb : Binds X.K fd ["self"] []) (tk : Takes X Wx) (hg : Gl X c:=by rfl) (hdb : (c == ("__debug__" : Str)) = false:=by decide) : JE T X Wx (.Call (.Name c p) [] [] pos) (fMk c fs0):=by
 refine ⟨_, pe_make0 (E:=fun _ _ _ => False) (dvs:=[]) M F hr hg hm hb .nil (passes_call tk fun _ _ _ _ h => h.elim) hdb, fun G F1 A S H σ ρ Q hw hs hp => ?_⟩
 refine fun x dx hx hdx ne => ⟨x, dx, G, F1, A, S, rfl, Ini.start hw hx hdx ne, fun F' H' bs e I => ⟨rfl, ?_⟩⟩
 have w2:=I.adopt (c:=c) (hT c)
 exact hp F' _ H' (.ref x) e (Pre.push _ _) w2 ⟨x :: dx :: bs, x, by rw [← hw.len, List.getElem?_concat_length], rfl, rfl⟩
end
end Vz
namespace Vz
open PySem PySem.Spec PyProof.Rows L2
section
variable {X : Cx} {CX : CXT} {k : Nat} {f C : Addr} {fd : FuncData} {ps : List Str} {sp : Sp}
abbrev noE : XK:=fun _ _ _ => False
end
end Vz
namespace Vz
open PySem PySem.Spec PyProof.Rows L2
section
variable {T : Tb} {X : Cx} {Wx : WX} {a e : Expr} {fa : FE} {ga : FA} {p pos : Pos} {c : Str} {k : Nat} {g : List W → Sto → R W}
def rCnt (K : PySem.W.Frag) : Bool → V → List V → Hp → VK → Prop:=fun b x xs H Q => ∃ (p : Addr) (ys : List V) (y : V), x = .ref p ∧ xs = [y] ∧ (match b with
 | false => SqL K H p ys
 | true => SqT K H p ys) ∧ flatV y = true ∧ ys.all flatV = true ∧ Q (.int (ys.countP fun z => eqV z y : Nat)) H
theorem count_eqU {y : V} : ∀ {ys : List V} {us : List Value}, Vals ys us → ys.all flatV = true → us.countP (eqU y) = ys.countP fun z => eqV z y
 | _, _, .nil, _ => rfl
 | z :: ys, u :: us, .cons r t, f => by
  rw [List.all_cons, Bool.and_eq_true] at f
  rw [List.countP_cons, List.countP_cons, count_eqU t f.2, eqU_of r f.1]
def idCnt : Bool → String
 | false => "list.count"
 | true => "tuple.count"
theorem mt_cnt : ∀ b, MtR X (idCnt b) (rCnt X.K b)
 | false => by
  intro pins s σ H x xs v us Q I rx rxs h
  obtain ⟨p, ys, y, rfl, rfl, hq, fy, fys, q⟩:=h
  cases rx
  obtain ⟨u, rfl, ru⟩:=vals1 rxs
  obtain ⟨its, rv, ⟨⟨cls, dd, data, sl⟩, n, ho, hc, hdn, hd⟩, hlen⟩:=I.list hq
  simp only at hc hd
  subst hc hd
  refine call_meets PySem.F.slot_list_count ⟨_, ho, rfl⟩ PySem.F.entry_list_count (PySem.F.args_list_count_2 _ _) (SeqAt.list_countAt p its.toArray n dd sl u (eqU y)) ⟨ho, fun z hz => mem_eqAt ru fy rv fys z (by simpa using hz), ?_⟩
  refine ⟨.int (ys.countP fun z => eqV z y : Nat), H, I.tok _, ⟨s.toks, ?_⟩, q⟩
  have ec : its.toArray.toList.countP (eqU y) = ys.countP fun z => eqV z y:=count_eqU rv fys
  rw [ec]
 | true => by
  intro pins s σ H x xs v us Q I rx rxs h
  obtain ⟨p, ys, y, rfl, rfl, hq, fy, fys, q⟩:=h
  cases rx
  obtain ⟨u, rfl, ru⟩:=vals1 rxs
  obtain ⟨its, rv, ⟨⟨cls, dd, data, sl⟩, ho, hc, n, hd⟩, hlen⟩:=I.tuple hq
  simp only at hc hd
  subst hc hd
  refine call_meets PySem.F.slot_tuple_count ⟨_, ho, rfl⟩ PySem.F.entry_tuple_count (PySem.F.args_tuple_count_2 _ _) (SeqAt.tuple_countAt p its.toArray n dd sl u (eqU y)) ⟨ho, fun z hz => mem_eqAt ru fy rv fys z (by simpa using hz), ?_⟩
  refine ⟨.int (ys.countP fun z => eqV z y : Nat), H, I.tok _, ⟨s.toks, ?_⟩, q⟩
  have ec : its.toArray.toList.countP (eqU y) = ys.countP fun z => eqV z y:=count_eqU rv fys
  rw [ec]
def itemsOf : D → Option (List D)
 | .list ds => some ds
 | .tup .nod ds => some ds
 | _ => none
def cntOf (w d : D) : Option Nat:=(itemsOf w).bind fun ds => (flats ds).bind fun vs => (flatD d).map fun v => vs.countP fun z => eqV z v
def fCount (f : FE) (ga : FA) : FE:=fun ρ S => (f ρ S).bind fun w S1 => match (rd S1 w).bind sqB with
 | some b => (ga ρ S1).bind fun ws S2 => R.lift (((rd S2 w).bind fun c => (rds S2 ws).bind (one fun d => (match sqB c with
  | some b' => (match decide (b' = b) with
   | true => cntOf c d
   | false => none)
  | none => none))).map fun j => .dat (.int (j : Nat))) S2
 | none => .bad
theorem je_count {apos cpos : Pos} (ho : JE T X Wx a fa) (ha : JA T X Wx [e] ga) (hbase : attributeBase a "count" X.env (eval a X.env) = eval a X.env:=by rfl)
  (hfew : ((backTo cpos (starEach [e] X.env)).all (fun x => !x.1) && (backToKw cpos (keywordEach [] X.env)).all (fun x => x.1.isSome) && decide ([e].length + ([] : List Keyword).length + (if ([] : List Keyword).isEmpty then 0 else 1) < 30)) = true:=by rfl)
  (hline : (apos.endLine == cpos.line) = true:=by rfl) (hs : starEach [e] X.env = (false, eval e X.env) :: starEach [] X.env:=by rfl) :
  JE T X Wx (.Call (.Attribute a "count" apos) [e] [] cpos) (fCount fa ga):=by
 obtain ⟨t, h1, s1⟩:=ho
 obtain ⟨u, h2, s2⟩:=ha
 refine ⟨_, pe_bS (id:=idCnt) (r:=rCnt X.K) (fun b => by cases b; exact F.slot_list_count; exact F.slot_tuple_count) (fun b => by cases b; exact F.type_list_count; exact F.type_tuple_count) mt_cnt h1 h2 hbase hfew hline hs rfl, fun G F A S H σ ρ Q hw hs hp => ?_⟩
 refine s1 G F A S H σ ρ _ hw hs (hp.bind fun w S1 F1 A1 H1 v1 e1 p1 w1 r1 hp1 => ?_)
 cases hb : (rd S1 w).bind sqB with
 | none => rw [hb] at hp1; exact hp1.elim
 | some b =>
  rw [hb] at hp1
  obtain ⟨d1, hd1, hb⟩:=ob hb
  refine ⟨b, tySq_of w1.sub (rd_rep w1 r1 hd1) hb, ?_⟩
  refine s2 G F1 A1 S1 H1 σ ρ _ w1 (hs.mono e1 p1) (hp1.bind fun ws S2 F2 A2 H2 v2 e2 p2 w2 r2 hp2 => ?_)
  obtain ⟨w', h3, q⟩:=hp2.lift
  obtain ⟨j, i3, rfl⟩:=om h3
  obtain ⟨c, h4, i4⟩:=ob i3
  obtain ⟨ds, h5, i5⟩:=ob i4
  obtain ⟨d, i6, h6⟩:=one_some i5
  subst i6
  have q':=q F2 A2 H2 (.int (j : Nat)) (Evl.Ex.refl _) (Pre.refl _) w2 (.int _)
  have rc:=rd_rep w2 (r1.mono e2 p2) h4
  have ra:=rds_rep w2 r2 h5
  cases ra with
  | cons ra rr =>
  cases rr
  cases hc : sqB c with
  | none => rw [hc] at h6; cases h6
  | some b' =>
   rw [hc] at h6
   dsimp only at h6
   cases hbb : decide (b' = b) with
   | false => rw [hbb] at h6; cases h6
   | true =>
    rw [hbb] at h6
    have:=of_decide_eq_true hbb
    subst this
    obtain ⟨cs, h7, h6⟩:=ob h6
    obtain ⟨vs, h8, h6⟩:=ob h6
    obtain ⟨v, h9, rfl⟩:=om h6
    have:=ra.flat_of h9
    subst this
    cases rc with
    | flat z => cases c <;> first | (cases hc; done) | (cases z; done)
    | lst k1 r9 =>
     cases hc
     cases h7
     have:=flats_rep r9 h8
     subst this
     exact ⟨_, _, _, rfl, rfl, .of k1, flatD_flatV h9, flats_all h8, q'⟩
    | tup f9 k1 r9 =>
     rename_i fl _ _ _
     cases fl with
     | nod =>
      cases hc
      cases h7
      have:=flats_rep r9 h8
      subst this
      exact ⟨_, _, _, rfl, rfl, k1, flatD_flatV h9, flats_all h8, q'⟩
     | _ => cases hc
    | dT _ _ => cases hc
    | dK _ _ => cases hc
structure JPs (T : Tb) (X : Cx) (Wx : WX) (es : List Expr) (f : Str → Rho → Sto → R Str) : Prop where
 ex : ∃ ts, PJ X es ts ∧ ∀ acc G F A S H σ ρ (Q : Str → Hp → Prop), Wd (T.g G) X.K F A S H → Sl X.K F A ρ σ → Post (T.g G) X.K (fun _ _ (a b : Str) => a = b) F A (f acc ρ S) Q (fun c d H' => Wx c d σ H') → tJs ts acc σ H Q
variable {es : List Expr} {g1 : Str → Rho → Sto → R Str} {x : Str} {j : Nat}
end
end Vz
namespace Vz
open PySem PySem.Spec PyProof.Rows L2
theorem putF_old {f : Str} {ds : List D} {p : Addr} : ∀ {fs : List (Str × List D)} {bs : List Addr} {j : Nat}, bs.length = fs.length → fix_ f fs = some j → putF f (.ref p) ((fs.map (·.1)).zip (bs.map V.ref)) = ((fs.set j (f, ds)).map (·.1)).zip ((bs.set j p).map V.ref)
 | [], _, _, _, h => by cases h
 | _ :: _, [], _, hl, _ => by cases hl
 | (g, xs) :: fs, b :: bs, j, hl, h => by
  unfold fix_ at h
  dsimp only at h
  cases hd : decide (g = f) with
  | true =>
   rw [hd] at h
   cases h
   have hg:=of_decide_eq_true hd
   subst hg
   simp [putF]
  | false =>
   rw [hd] at h
   obtain ⟨j', h', rfl⟩:=om h
   have hg:=of_decide_eq_false hd
   have ih:=putF_old (ds:=ds) (p:=p) (by simpa using hl) h'
   simp only [List.map_cons, List.zip_cons_cons, List.set_cons_succ]
   unfold putF
   rw [if_neg hg, ih]
theorem nodup_set {p : Addr} : ∀ {bs : List Addr} {j : Nat}, bs.Nodup → p ∉ bs → (bs.set j p).Nodup
 | [], _, _, _ => by simp
 | b :: bs, 0, h, n => by
  obtain ⟨h1, h2⟩:=List.nodup_cons.mp h
  exact List.nodup_cons.mpr ⟨fun z => n (List.mem_cons_of_mem _ z), h2⟩
 | b :: bs, j + 1, h, n => by
  obtain ⟨h1, h2⟩:=List.nodup_cons.mp h
  refine List.nodup_cons.mpr ⟨fun z => ?_, nodup_set h2 fun z => n (List.mem_cons_of_mem _ z)⟩
  rcases List.mem_or_eq_of_mem_set z with z | z
  ·exact h1 z
  ·exact n (by rw [z]; exact List.mem_cons_self ..)
section
variable {T : Tb} {K : PySem.W.Frag} {F H G : Hp} {A : List (List Addr)} {S : Sto} {x dx ca : Addr} {fs : List (Str × List D)} {bs : List Addr}
theorem fld_setP {f : Str} {ds : List D} {p : Addr} {vs : List V} (hF : F p = none) (hp : H p = some (.lst vs)) (r : Reps K F ds vs) : ∀ {fs : List (Str × List D)} {bs : List Addr} {j : Nat}, Paired (FieldP K F H) fs bs → Paired (FieldP K F H) (fs.set j (f, ds)) (bs.set j p)
 | _, _, _, .nil => by simp; exact .nil
 | _ :: _, _ :: _, 0, .cons _ q => .cons ⟨hF, vs, hp, r⟩ q
 | _ :: _, _ :: _, j + 1, .cons a q => .cons a (fld_setP hF hp r q)
theorem Ini.put {f : Str} {ds : List D} {p : Addr} {vs : List V} {j : Nat} (I : Ini T K F A S H G x dx ca fs bs) (hj : fix_ f fs = some j) (hp : H p = some (.lst vs)) (r : Reps K F ds vs) (hF : F p = none) (hG : G p = none) (hA : p ∉ A.flatten) (np : p ∉ x :: dx :: bs) :
  Ini T K F A S (upd H x (.ins ca dx (putF f (.ref p) ((fs.map (·.1)).zip (bs.map V.ref))))) G x dx ca (fs.set j (f, ds)) (bs.set j p):=by
 have lb:=Paired.length I.p
 obtain ⟨n1, n2⟩:=List.nodup_cons.mp I.nd
 obtain ⟨n3, n4⟩:=List.nodup_cons.mp n2
 have npx : x ≠ p:=fun z => np (by rw [z]; simp)
 have npd : dx ≠ p:=fun z => np (by rw [z]; simp)
 have npb : p ∉ bs:=fun z => np (List.mem_cons_of_mem _ (List.mem_cons_of_mem _ z))
 have fx:=I.f x (by simp)
 have inb : ∀ b, b ∈ bs.set j p → b ∈ bs ∨ b = p:=fun b hb => List.mem_or_eq_of_mem_set hb
 have nx : x ∉ bs.set j p:=fun z => by
  rcases inb x z with z | z
  ·exact n1 (List.mem_cons_of_mem _ z)
  ·exact npx z
 refine ⟨I.w.grow fx.1 fx.2.1 fx.2.2 I.hx, ?_, ?_, ?_, fun b hb => ?_, ?_⟩
 ·refine List.nodup_cons.mpr ⟨fun z => ?_, List.nodup_cons.mpr ⟨fun z => ?_, nodup_set n4 npb⟩⟩
  ·rcases List.mem_cons.mp z with z | z
   ·exact n1 (by rw [z]; simp)
   ·exact nx z
  ·rcases inb dx z with z | z
   ·exact n3 z
   ·exact npd z
 ·rw [upd_same, putF_old (by omega) hj]
 ·rw [upd_ne (fun z => n1 (by rw [← z]; simp))]
  exact I.hdx
 ·rcases List.mem_cons.mp hb with z | hb
  ·rw [z]; exact fx
  ·rcases List.mem_cons.mp hb with z | hb
   ·rw [z]; exact I.f dx (by simp)
   ·rcases inb b hb with z | z
    ·exact I.f b (List.mem_cons_of_mem _ (List.mem_cons_of_mem _ z))
    ·rw [z]; exact ⟨hF, hG, hA⟩
 ·exact fld_far nx (fld_setP hF hp r I.p)
theorem Sl.blur {ρ : Rho} {σ : L2.St} {o : Option V} (h : Sl K F A ρ σ) (i : Nat) : Sl K F A (ρ.set i none) (σ.set i o):=by
 refine ⟨by rw [List.length_set, List.length_set]; exact h.len, fun j w' q => ?_⟩
 by_cases hj : i = j
 ·subst hj
  have hi : i < ρ.length:=by
   have q':=(List.getElem?_eq_some_iff.mp q).1
   rwa [List.length_set] at q'
  rw [List.getElem?_set_self hi] at q
  cases q
 ·rw [List.getElem?_set_ne hj] at q
  obtain ⟨v', h1, h2⟩:=h.at_ j w' q
  exact ⟨v', by rw [List.getElem?_set_ne hj]; exact h1, h2⟩
end
def sMkSet (i : Nat) (c f : Str) (fs0 : List (Str × List D)) (fl : FL) : FS:=fun ρ S => match decide (i < ρ.length) with
 | true => (match fix_ f fs0 with
  | some j => (match fl (ρ.set i none) S with
   | .ok ds S1 => .nx (ρ.set i (some (.loc S1.length 0))) (S1 ++ [.ins c (fs0.set j (f, ds))])
   | _ => .bad)
  | none => .bad)
 | false => .bad
section
variable {T : Tb} {X : Cx} {Wx : WX} {c f x : Str} {fs0 : List (Str × List D)} {k i : Nat} {fd : FuncData} {p px pv pa pos1 pos2 pos : Pos} {e : Expr} {fl : FL} {rest : List Stmt} {gr : FS}
theorem jb_mkSet (hT : ∀ c : Str, T.cls c = some (He.ga X.K c)) (M : Mk X.K (He.ga X.K c) (He.ma X.K (He.ga X.K c) "__init__")) (F : FnOk X.prog X.w X.K X.mg X.base (L2.CX X.prog X.w) k (He.ma X.K (He.ga X.K c) "__init__") fd ["self"] (spIni T X.K (He.ga X.K c) fs0)) (hr : Room (k + 1) X.A) (hm : X.mg c = some (.ref (He.ga X.K c)))
  (hbd : Binds X.K fd ["self"] []) (tk : Takes X Wx) (hcl : Cls X.K (He.ga X.K c)) (hno : NoAttr X.K (He.ga X.K c) f) (hlen : fs0.length < 1000) (hN : X.N.Nodup) (he : JL T X noW e fl) (hrest : JB T X Wx rest gr) (hi : X.N[i]? = some x:=by rfl) (hx : Loc X.env.scope x:=by first | exact Or.inl rfl | exact Or.inr rfl)
  (hv : Vis X.env.scope x:=by first | exact Or.inl rfl | exact Or.inr (Or.inl rfl) | exact Or.inr (Or.inr rfl)) (hdx : (x == ("__debug__" : Str)) = false:=by decide) (hcd : (x == ("__classdict__" : Str)) = false:=by decide)
  (hg : Gl X c:=by rfl) (hdb : (c == ("__debug__" : Str)) = false:=by decide) (hs1 : swapsWith (.Call (.Name c p) [] [] pos) (some (.Name x px)) pos1.line X.env = pure false:=by rfl) (hf : X.fn x = true ∨ X.env.scope.names.lookup x = some .local:=by first | exact .inl rfl | exact .inr rfl | assumption)
  (hs2 : swapsWith e (some (.Attribute (.Name x pv) f pa)) pos2.line X.env = pure false:=by rfl) :
  JB T X Wx (.Assign [.Name x px] (.Call (.Name c p) [] [] pos) pos1 :: .Assign [.Attribute (.Name x pv) f pa] e pos2 :: rest) (sSeq (sMkSet i c f fs0 fl) gr):=by
 obtain ⟨t, h1, s1⟩:=he
 obtain ⟨u, h2, s2⟩:=hrest
 refine ⟨_, pss_cons (ps_set hN hi hx (pe_make0 (E:=fun _ _ _ => False) (dvs:=[]) M F hr hg hm hbd .nil (passes_call tk fun _ _ _ _ h => h.elim) hdb) hs1 hf) (pss_cons (ps_fld (pe_var hi hv hdx hcd) h1 hs2) h2), fun G F1 A S H σ ρ D hw hs hp => ?_⟩
 unfold sSeq sMkSet at hp
 cases q0 : decide (i < ρ.length) with
 | false => rw [q0] at hp; exact hp.elim
 | true =>
 rw [q0] at hp
 dsimp only at hp
 have hiL:=of_decide_eq_true q0
 cases q1 : fix_ f fs0 with
 | none => rw [q1] at hp; exact hp.elim
 | some j =>
 rw [q1] at hp
 dsimp only at hp
 cases q2 : fl (ρ.set i none) S with
 | bad => rw [q2] at hp; exact hp.elim
 | exc _ _ => rw [q2] at hp; exact hp.elim
 | ok ds S1 =>
 rw [q2] at hp
 dsimp only at hp
 refine fun a dx hx hdx ne => ⟨a, dx, G, F1, A, S, rfl, Ini.start hw hx hdx ne, fun F' H' bs e0 I => ⟨rfl, ?_⟩⟩
 obtain ⟨G', w', eG, so, back⟩:=I.hold
 refine s1 G' F' A S H' _ (ρ.set i none) _ w' ((hs.mono e0 (Pre.refl _)).blur i) ?_
 rw [q2]
 intro F2 A2 H2 pp vs e2 p2 w2 hpp hF hG hA r
 have I2:=back F2 _ S1 H2 e2 w2
 have hG : G' pp = none:=hG
 have np : pp ∉ a :: dx :: bs:=fun z => by
  have:=so pp z
  rw [hG] at this
  cases this
 refine ⟨V.ref a, by rw [List.getElem?_set_self (by rw [← hs.len]; exact hiL)], a, _, dx, _, rfl, I2.hx, hcl, hno, ?_, ?_⟩
 ·rw [List.length_zip, List.length_map]
  omega
 have I3:=I2.put q1 hpp r hF (Evl.fresh_back eG hG) hA np
 have w3:=I3.adopt (c:=c) (hT c)
 have e3:=e0.trans e2
 have p3:=p2.trans (Pre.push A2 (a :: dx :: bs.set j pp))
 refine s2 G F2 _ _ _ _ (ρ.set i (some (.loc S1.length 0))) D w3 ((hs.mono e3 p3).set i ⟨a :: dx :: bs.set j pp, a, ?_, rfl, rfl⟩) (hp.shift e3 p3)
 rw [← w2.len, List.getElem?_concat_length]
end
end Vz
namespace Vz
open PySem PySem.Spec PyProof.Rows L2
abbrev TT (K : PySem.W.Frag) : Tb:=⟨fun c => some (He.ga K c), fun _ => none, []⟩
section
variable {T : Tb} {X : Cx} {Wx : WX} {a : Expr} {fa : FE} {pos : Pos}
theorem pg_or {tg : Expr} {t u : TG} (h1 : PG X tg t) (h2 : PG X tg u) : PG X tg (fun v σ H Q => t v σ H Q ∨ u v σ H Q) :=
 ⟨fun pins s σ H v w Q I r h => h.elim (h1.run pins s σ H v w Q I r) (h2.run pins s σ H v w Q I r)⟩
def oSeq (n : Nat) (gs : List D → Rho → Option Rho) : FG:=fun w ρ S => match rd S w with
 | some (.tup _ ds) => ifO (decide (ds.length = n)) ((gs ds ρ).map fun ρ' => (ρ', S))
 | some (.list ds) => ifO (decide (ds.length = n)) ((gs ds ρ).map fun ρ' => (ρ', S))
 | _ => none
theorem jg_seq {tgs : List Expr} {k : Nat} {gs : List D → Rho → Option Rho} {n : Nat} (hc : X.calm = true) (h : JGs T X tgs gs) (hn : (assignEach tgs X.env).length = n:=by rfl) (hst : (assignEach tgs X.env).findIdx? (·.1) = none:=by rfl) :
  JG T X (.Tuple tgs k pos) (oSeq n gs):=by
 obtain ⟨t, h1, s1⟩:=h
 refine ⟨_, pg_or (pg_tup hc h1 hn hst) (pg_lst hc h1 hn hst), fun G F A S H σ ρ w v Q hw hs r ⟨ρ', S', h2, q⟩ => ?_⟩
 unfold oSeq at h2
 split at h2
 ·rename_i ds e
  obtain ⟨c, h2⟩:=ifO_some h2
  obtain ⟨ρ2, h3, e2⟩:=om h2
  cases e2
  cases rd_rep hw r e with
  | flat z => cases z
  | tup f1 f2 f3 => exact .inl ⟨_, _, rfl, f2, by rw [← f3.length]; exact of_decide_eq_true c, s1 G F A S H σ ρ ds _ Q hw hs f3 ⟨_, h3, fun σ' s' => q F A σ' H (Evl.Ex.refl _) (Pre.refl _) hw s'⟩⟩
 ·rename_i ds e
  obtain ⟨c, h2⟩:=ifO_some h2
  obtain ⟨ρ2, h3, e2⟩:=om h2
  cases e2
  cases rd_rep hw r e with
  | flat z => cases z
  | lst f2 f3 => exact .inr ⟨_, _, rfl, .of f2, by rw [← f3.length]; exact of_decide_eq_true c, s1 G F A S H σ ρ ds _ Q hw hs f3 ⟨_, h3, fun σ' s' => q F A σ' H (Evl.Ex.refl _) (Pre.refl _) hw s'⟩⟩
 ·cases h2
def lSl (f : FE) (g h : Rho → Sto → R (Option Int)) : FL:=fun ρ S => (f ρ S).bind fun w S1 => (g ρ S1).bind fun lo S2 => (h ρ S2).bind fun hi S3 => R.lift (((rd S3 w).bind (cutD lo hi)).bind fun d => match d with
 | .list ys => some ys
 | _ => none) S3
theorem jl_slice {lo hi : Option Expr} {gl gh : Rho → Sto → R (Option Int)} {p2 : Pos} (ha : JE T X Wx a fa) (hl : JO T X Wx lo gl) (hh : JO T X Wx hi gh) : JL T X Wx (.Subscript a (.Slice lo hi none p2) pos) (lSl fa gl gh):=by
 obtain ⟨t, h1, s1⟩:=ha
 obtain ⟨tl, h2, s2⟩:=hl
 obtain ⟨th, h3, s3⟩:=hh
 refine ⟨_, pe_slice sl_list h1 h2 h3, fun G F A S H σ ρ Q hw hs hp => ?_⟩
 refine s1 G F A S H σ ρ _ hw hs (hp.bind fun w S1 F1 A1 H1 v1 e1 p1 w1 r1 hp1 => ?_)
 refine s2 G F1 A1 S1 H1 σ ρ _ w1 (hs.mono e1 p1) (hp1.bind fun olo S2 F2 A2 H2 v2 e2 p2 w2 r2 hp2 => ?_)
 cases r2
 refine s3 G F2 A2 S2 H2 σ ρ _ w2 ((hs.mono e1 p1).mono e2 p2) (hp2.bind fun ohi S3 F3 A3 H3 v3 e3 p3 w3 r3 hp3 => ?_)
 cases r3
 cases h5 : rd S3 w with
 | none => rw [h5] at hp3; exact hp3.elim
 | some d =>
  have rr:=rd_rep w3 (r1.mono (e2.trans e3) (p2.trans p3)) h5
  rw [h5, Option.bind_some] at hp3
  cases d with
  | list xs =>
   cases rr with
   | flat z => cases z
   | lst h6 r6 => exact ⟨_, _, rfl, .of h6, fun p hp => PostL.new hp3 w3 (r6.cut olo ohi) hp⟩
  | tup f xs =>
   simp only [cutD] at hp3
   split at hp3 <;> exact hp3.elim
  | str z =>
   simp only [cutD] at hp3
   cases h6 : decide (z.length ≤ lim) with
   | false => rw [h6] at hp3; exact hp3.elim
   | true => rw [h6] at hp3; exact hp3.elim
  | none => exact hp3.elim
  | bool b => exact hp3.elim
  | int i => exact hp3.elim
  | dT ps => exact hp3.elim
  | dK ps => exact hp3.elim
end
end Vz
namespace Vz
open PySem PySem.Spec PyProof.Rows L2
end Vz
namespace Vz
open PySem PySem.Spec PyProof.Rows L2
section
variable {S : Sto} {c1 c2 c : C}
end
theorem findV_ints {a : Int} : ∀ xs : List Int, findV (.int a) (xs.map V.int) = findI a xs
 | [] => rfl
 | x :: xs => by
  have ih:=findV_ints (a:=a) xs
  rw [List.map_cons]
  unfold findV findI
  have e : eqV (.int x) (.int a) = decide (x = a):=by
   show (x == a) = _
   by_cases h : x = a
   ·subst h; simp
   ·simp [h]
  rw [e, ih]
theorem ix_list {a : Int} {xs : List Int} (h : a ∈ xs) : ixOf false (.list (xs.map D.int)) (.int a) = some (xs.idxOf a):=by
 have hf : findI a xs = some (xs.idxOf a):=by
  cases hq : findI a xs with
  | some j => rw [(findI_ok hq).2]
  | none => exact absurd h (findI_none hq)
 unfold ixOf
 simp only [flats_ints, Option.bind_some, show flatD (.int a) = some (V.int a) from rfl, findV_ints, hf]
end Vz
namespace Vz
open PySem PySem.Spec PyProof.Rows L2
end Vz
namespace Vz
open PySem PySem.Spec PyProof.Rows L2
section
variable {P : Program} {w : World} {A : Around} {E : Value → Shared → Prop} {s : Shared}
end
def ddI : List Int → List Int
 | [] => []
 | x :: xs => if x ∈ xs then ddI xs else x :: ddI xs
def rSetL (K : PySem.W.Frag) (w : World) : List V → Hp → VK → Prop:=fun xs H Q => ∃ (l : Addr) (ns : List Int), xs = [V.ref l] ∧ SqL K H l (ns.map V.int) ∧ ns.length < 4000 ∧
 ∀ a n, H a = none → n = (ddI ns).length → Q (.ref a) (upd H a (SetO w a (fun j => decide (j ∈ ns)) n))
section
variable {X : Cx}
end
section
variable {T : Tb} {X : Cx} {Wx : WX} {e : Expr} {pos p p2 q : Pos} {ga : FA}
end
end Vz
namespace Vz
open PySem PySem.Spec PyProof.Rows L2
section
variable {T : Tb} {X : Cx} {Wx : WX} {a b : Expr} {fa fb : FE} {pos : Pos}
theorem jl_cat (ha : JE T X Wx a fa) (hb : JE T X Wx b fb) : JL T X Wx (.BinOp a .Add b pos) (lCat fa fb):=by
 obtain ⟨ta, h1, s1⟩:=ha
 obtain ⟨tb, h2, s2⟩:=hb
 refine ⟨_, pe_op op_cat h1 h2, fun G F A S H σ ρ Q hw hs hp => ?_⟩
 refine s1 G F A S H σ ρ _ hw hs (hp.bind fun x S1 F1 A1 H1 v1 e1 p1 w1 r1 hp1 => ?_)
 refine s2 G F1 A1 S1 H1 σ ρ _ w1 (hs.mono e1 p1) (hp1.bind fun y S2 F2 A2 H2 v2 e2 p2 w2 r2 hp2 => ?_)
 unfold rd2 at hp2
 cases hx : rd S2 x with
 | none => rw [hx] at hp2; exact hp2.elim
 | some dx =>
  cases hy : rd S2 y with
  | none => rw [hx, hy] at hp2; exact hp2.elim
  | some dy =>
   rw [hx, hy, Option.bind_some, Option.bind_some] at hp2
   have rx:=rd_rep w2 (r1.mono e2 p2) hx
   have ry:=rd_rep w2 r2 hy
   cases hz : addL dx dy with
   | none => rw [hz] at hp2; exact hp2.elim
   | some z =>
    rw [hz, Option.bind_some] at hp2
    unfold addL at hz
    split at hz
    ·rename_i i j
     obtain ⟨c, e⟩:=ifO_some hz
     cases e
     have c':=lim_le (of_decide_eq_true c)
     cases rx with
     | flat q => cases q
     | lst q1 q2 =>
      cases ry with
      | flat q => cases q
      | lst q3 q4 => exact ⟨_, _, _, _, rfl, rfl, q1, q3, by rw [← q2.length, ← q4.length]; exact c', fun p hp' => PostL.new hp2 w2 (q2.append q4) hp'⟩
    ·cases hz
def cSeq (n : Nat) (gs : List D → Rho → Option Rho) : FC:=fun d ρ => match d with
 | .tup _ ds => ifO (decide (ds.length = n)) (gs ds ρ)
 | .list ds => ifO (decide (ds.length = n)) (gs ds ρ)
 | _ => none
end
end Vz
namespace Vz
open PySem PySem.Spec PyProof.Rows L2
def borC : Option C → Option W
 | some (.lst xs) => some (.dat (.list xs))
 | some (.frz d) => some (.dat d)
 | _ => none
def borW (S : Sto) : Option W → Option W
 | some (.loc k 0) => borC S[k]?
 | some (.loc _ _) => none
 | w => w
def borO (S : Sto) : R W → R W
 | .ok (.dat d) _ => (match flatD d with
  | some _ => .ok (.dat d) S
  | none => .bad)
 | _ => .bad
def fBor (f : FE) : FE:=fun ρ S => borO S (f (ρ.map (borW S)) [])
section
variable {T : Tb} {X : Cx} {Wx : WX} {e : Expr} {f : FE} {K : PySem.W.Frag} {G F H : Hp} {A : List (List Addr)} {S : Sto}
end
end Vz
namespace Vz
open PySem PySem.Spec PyProof.Rows L2
section
variable {P : Program} {w : World} {A : Around} {E : Value → Shared → Prop} {s : Shared}
end
section
variable {X : Cx}
end
section
variable {T : Tb} {X : Cx} {Wx : WX} {e : Expr} {pos p p2 q : Pos} {ga : FA}
end
section
variable {T : Tb} {X : Cx} {Wx : WX} {a b : Expr} {fa fb : FE} {pos : Pos}
end
end Vz
namespace Vz
open PySem PySem.Spec PyProof.Rows L2
def LLP (K : PySem.W.Frag) (F H : Hp) : List (List D) → List Addr → Prop:=Paired (fun xs b => F b = none ∧ ∃ vs, H b = some (.lst vs) ∧ Reps K F xs vs)
theorem llp_keep {K : PySem.W.Frag} {F F2 H H2 : Hp} (e : Ex F F2) : ∀ {xss : List (List D)} {bs : List Addr}, (∀ b ∈ bs, F2 b = none ∧ H2 b = H b) → LLP K F H xss bs → LLP K F2 H2 xss bs
 | _, _, _, .nil => .nil
 | _, _, h, .cons ⟨h1, vs, h2, h3⟩ r => .cons ⟨(h _ (List.mem_cons_self ..)).1, vs, by rw [(h _ (List.mem_cons_self ..)).2]; exact h2, h3.mono e⟩ (llp_keep e (fun b hb => h b (List.mem_cons_of_mem _ hb)) r)
theorem llp_app {K : PySem.W.Frag} {F H : Hp} {xs : List D} {b : Addr} (h : F b = none ∧ ∃ vs, H b = some (.lst vs) ∧ Reps K F xs vs) : ∀ {xss : List (List D)} {bs : List Addr}, LLP K F H xss bs → LLP K F H (xss ++ [xs]) (bs ++ [b])
 | _, _, .nil => .cons h .nil
 | _, _, .cons a q => .cons a (llp_app h q)
theorem llp_at {K : PySem.W.Frag} {F H : Hp} : ∀ {xss : List (List D)} {bs : List Addr}, LLP K F H xss bs → ∀ b ∈ bs, ∃ vs, H b = some (.lst vs)
 | _, _, .nil, b, hb => nomatch hb
 | _, _, .cons ⟨_, vs, h, _⟩ r, b, hb => by
  rcases List.mem_cons.mp hb with rfl | hb
  ·exact ⟨vs, h⟩
  ·exact llp_at r b hb
def fCellR (g : Rho → Sto → R (List (List D))) : FE:=fun ρ S => (g ρ S).bind fun xss S1 => .ok (.loc S1.length 0) (S1 ++ [.ll xss])
def cLR (T : Tb) (K : PySem.W.Frag) (f : FL) : TE:=fun σ H Q => ∃ G F A S ρ, Wd (T.g G) K F A S H ∧ Sl K F A ρ σ ∧ PostL (T.g G) K F A (f ρ S) Q (fun c d H' => noW c d σ H')
section
variable {T : Tb} {X : Cx} {Wx : WX} {e tg iter elt : Expr} {f : FL} {pos : Pos}
theorem JL.pe {g : FL} (h : JL T X noW e g) : PE X e (cLR T X.K g):=by
 obtain ⟨t, h1, h2⟩:=h
 exact PE.weak h1 fun σ H Q ⟨G, F, A, S, ρ, a, b, c⟩ => h2 G F A S H σ ρ Q a b c
structure LLI (T : Tb) (K : PySem.W.Frag) (F : Hp) (A : List (List Addr)) (S : Sto) (H G : Hp) (p : Addr) (xss : List (List D)) (bs : List Addr) : Prop where
 w : Wd (T.g G) K F A S H
 nd : (p :: bs).Nodup
 hp : H p = some (.lst (bs.map V.ref))
 f : ∀ b ∈ p :: bs, F b = none ∧ G b = none ∧ b ∉ A.flatten
 r : LLP K F H xss bs
theorem LLI.lists {K : PySem.W.Frag} {F H G : Hp} {A : List (List Addr)} {S : Sto} {p : Addr} {xss : List (List D)} {bs : List Addr} (I : LLI T K F A S H G p xss bs) : ∀ b ∈ p :: bs, ∃ vs, H b = some (.lst vs):=fun b hb => by
 rcases List.mem_cons.mp hb with rfl | hb
 ·exact ⟨_, I.hp⟩
 ·exact llp_at I.r b hb
theorem LLI.hold {K : PySem.W.Frag} {F H G : Hp} {A : List (List Addr)} {S : Sto} {p : Addr} {xss : List (List D)} {bs : List Addr} (I : LLI T K F A S H G p xss bs) : ∃ G', Wd (T.g G') K F A S H ∧ Ex G G' ∧ (∀ b ∈ p :: bs, (G' b).isSome) ∧
  ∀ F2 A2 S2 H2, Ex F F2 → Wd (T.g G') K F2 A2 S2 H2 → LLI T K F2 A2 S2 H2 G p xss bs:=by
 obtain ⟨G', w', e', q⟩:=still_all I.w I.nd fun b hb => ⟨by
  obtain ⟨vs, h⟩:=I.lists b hb
  exact ⟨_, h, fun ps z => nomatch z⟩, I.f b hb⟩
 have so : ∀ b ∈ p :: bs, (G' b).isSome:=fun b hb => by
  obtain ⟨vs, h⟩:=I.lists b hb
  rw [q b hb, h]
  rfl
 refine ⟨G', w', e', so, fun F2 A2 S2 H2 e2 w2 => ?_⟩
 have eq : ∀ b ∈ p :: bs, H2 b = H b:=fun b hb => by
  obtain ⟨o, ho⟩:=Option.isSome_iff_exists.mp (so b hb)
  rw [w2.gh b o ho, ← q b hb, ho]
 have fr : ∀ b ∈ p :: bs, F2 b = none ∧ G b = none ∧ b ∉ A2.flatten:=fun b hb => by
  obtain ⟨o, ho⟩:=Option.isSome_iff_exists.mp (so b hb)
  have ho : (T.g G').G b = some o:=ho
  refine ⟨?_, (I.f b hb).2.1, fun z => ?_⟩
  ·cases h : F2 b with
   | none => rfl
   | some u =>
    rcases w2.fg b u h with z | ⟨us, rfl⟩
    ·rw [ho] at z
     cases z
    ·have z:=w2.sub b _ h
     obtain ⟨vs, hv⟩:=I.lists b hb
     rw [eq b hb, hv] at z
     cases z
  ·have z:=w2.gd b z
   rw [ho] at z
   cases z
 exact ⟨w2.lessG e', I.nd, by rw [eq p (by simp)]; exact I.hp, fr, llp_keep e2 (fun b hb => ⟨(fr b (List.mem_cons_of_mem _ hb)).1, eq b (List.mem_cons_of_mem _ hb)⟩) I.r⟩
theorem LLI.add {K : PySem.W.Frag} {F H G : Hp} {A : List (List Addr)} {S : Sto} {p q : Addr} {xss : List (List D)} {bs : List Addr} {xs : List D} {vs : List V} (I : LLI T K F A S H G p xss bs) (hq : H q = some (.lst vs)) (r : Reps K F xs vs) (hF : F q = none) (hG : G q = none) (hA : q ∉ A.flatten) (nq : q ∉ p :: bs) :
  LLI T K F A S (upd H p (.lst (bs.map V.ref ++ [.ref q]))) G p (xss ++ [xs]) (bs ++ [q]):=by
 obtain ⟨f1, f2, f3⟩:=I.f p (by simp)
 have np : ∀ b ∈ bs, b ≠ p:=fun b hb z => (List.nodup_cons.mp I.nd).1 (z ▸ hb)
 have nqp : q ≠ p:=fun z => nq (by rw [z]; simp)
 refine ⟨I.w.grow f1 f2 f3 I.hp, ?_, by rw [upd_same, List.map_append]; rfl, fun b hb => ?_, llp_app ⟨hF, vs, by rw [upd_ne nqp]; exact hq, r⟩ (llp_keep (Evl.Ex.refl _) (fun b hb => ⟨(I.f b (List.mem_cons_of_mem _ hb)).1, upd_ne (np b hb)⟩) I.r)⟩
 ·have : (p :: bs ++ [q]).Nodup:=by
   rw [List.nodup_append]
   exact ⟨I.nd, by simp, fun a ha b hb z => nq (by
    rcases List.mem_singleton.mp hb with rfl
    rw [← z]; exact ha)⟩
  exact this
 ·have hb' : b ∈ (p :: bs) ++ [q]:=hb
  rcases List.mem_append.mp hb' with h | h
  ·exact I.f b h
  ·rw [List.mem_singleton.mp h]
   exact ⟨hF, hG, hA⟩
theorem LLI.cut {K : PySem.W.Frag} {F H G : Hp} {A A1 : List (List Addr)} {S : Sto} {p : Addr} {xss : List (List D)} {bs : List Addr} (I : LLI T K F A S H G p xss bs) (pr : Pre A1 A) : LLI T K F A1 (S.take A1.length) H G p xss bs:=by
 have w:=I.w.cut A1.length
 rw [pr.cutW] at w
 refine ⟨w, I.nd, I.hp, fun b hb => ?_, I.r⟩
 obtain ⟨h1, h2, h3⟩:=I.f b hb
 refine ⟨h1, h2, fun z => h3 ?_⟩
 rw [← pr.cutW] at z
 obtain ⟨as, m1, m2⟩:=List.mem_flatten.mp z
 exact List.mem_flatten.mpr ⟨as, List.mem_of_mem_take m1, m2⟩
def sSetR (i : Nat) (f : Rho → Sto → R (List (List D))) : FS:=sSet i (fCellR f)
end
structure RowR where
 k : Nat
 j : Nat
 xss : List (List D)
 xs : List D
def RowR.put (p : RowR) (ys : List D) (S : Sto) : Sto:=S.set p.k (.ll (p.xss.set p.j ys))
section
variable {T : Tb} {K : PySem.W.Frag} {F H : Hp}
def ixR (S : Sto) : W → D → Option W
 | .loc k 0, .int i => match S[k]? with
  | some (.ll xss) => (ixN xss.length i).bind fun j => (xss[j]?).map fun _ => .loc k (j + 1)
  | _ => none
 | _, _ => none
def fIxR (fa fb : FE) : FE:=fun ρ S => (fa ρ S).bind fun x S1 => (fb ρ S1).bind fun y S2 => R.lift ((rd S2 y).bind fun d => ixR S2 x d) S2
end
section
variable {T : Tb} {X : Cx} {Wx : WX} {a b e : Expr} {fa fb : FE} {ga : FA} {pos : Pos}
end
end Vz
namespace Vz
open PySem PySem.Spec PyProof.Rows L2
section
variable {T : Tb} {X : Cx} {Wx : WX} {e tg iter tg1 iter1 elt : Expr} {f : FE} {pos : Pos}
end
end Vz
namespace Vz
open PySem PySem.Spec PyProof.Rows L2
section
variable {P : Program} {w : World} {A : Around} {E : Value → Shared → Prop} {s : Shared}
end
section
variable {X : Cx}
end
section
variable {T : Tb} {X : Cx} {Wx : WX} {e : Expr} {pos p : Pos} {ga : FA}
end
end Vz
namespace Vz
open PySem PySem.Spec PyProof.Rows L2
section
variable {T : Tb} {X : Cx} {Wx : WX} {a b : Expr} {fa fb : FE} {pos : Pos}
end
end Vz
namespace Vz
open PySem PySem.Spec PyProof.Rows L2 PpSet
section
variable {X : Cx}
end
section
variable {T : Tb} {X : Cx} {Wx : WX} {tg iter elt : Expr} {tc : FT} {f : FE} {pos : Pos}
abbrev setOf (w : World) (p : Addr) (ns : List Int) : HO:=SetO w p (fun j => decide (j ∈ ns)) (ddI ns).length
def PostSt (T : Tb) (K : PySem.W.Frag) (w0 : World) (F : Hp) (A : List (List Addr)) (r : R (List D)) (Q : VK) (Wx : XK) : Prop :=
 match r with
 | .ok ds S => ∀ ns, ds = ns.map D.int → ∀ F' A' H' p, Ex F F' → Pre A A' → Wd T K F' A' S H' → H' p = some (setOf w0 p ns) → F' p = none → T.G p = none → p ∉ A'.flatten → ns.length ≤ lim → Q (.ref p) H'
 | .exc x S => ∀ F' A' H' cls d, Ex F F' → Pre A A' → Wd T K F' A' S H' → RepX T K F' x cls d → Wx cls d H'
 | .bad => False
theorem PostSt.shift {K : PySem.W.Frag} {w0 : World} {F : Hp} {A : List (List Addr)} {W : XK} {F' : Hp} {A' : List (List Addr)} {r : R (List D)} {Q : VK} (h : PostSt T K w0 F A r Q W) (e : Ex F F') (p : Pre A A') : PostSt T K w0 F' A' r Q W:=by
 cases r with
 | ok a S => exact fun ns z F2 A2 H2 q e2 p2 => h ns z F2 A2 H2 q (e.trans e2) (p.trans p2)
 | exc x S => exact fun F2 A2 H2 c d e2 p2 => h F2 A2 H2 c d (e.trans e2) (p.trans p2)
 | bad => exact h
theorem PostSt.bind {α β : Type} {K : PySem.W.Frag} {w0 : World} {F : Hp} {A : List (List Addr)} {W : XK} {rel1 : Hp → List (List Addr) → α → β → Prop} {r : R α} {k : α → Sto → R (List D)} {P : β → Hp → Prop} {Q : VK} (h : PostSt T K w0 F A (r.bind k) Q W)
  (hk : ∀ a S' F' A' H' v, Ex F F' → Pre A A' → Wd T K F' A' S' H' → rel1 F' A' a v → PostSt T K w0 F' A' (k a S') Q W → P v H') : Post T K rel1 F A r P W:=by
 cases r with
 | ok a S => exact fun F2 A2 H2 v e2 p2 w2 r2 => hk a S F2 A2 H2 v e2 p2 w2 r2 (h.shift e2 p2)
 | exc x S => exact h
 | bad => exact h
variable {ifs : List Expr} {scope : Scope} {own : List (Str × Nat)} {fi : FI} {gg : FC} {p : Pos} {cpos : Pos}
end
end Vz
namespace Vz
open PySem PySem.Spec PyProof.Rows L2
section
variable {T : Tb} {X : Cx} {Wx : WX} {e : Expr} {pos p : Pos} {ga : FA}
end
end Vz
namespace Vz
open PySem PySem.Spec PyProof.Rows L2
theorem xc_zero {P : Program} {w : World} {K : PySem.W.Frag} {mg : Str → Option Value} {base : Heap} {c : Str} {B newId initId : String} {bm : List Value} {qual : Str} {params : Arguments} {body : List Stmt} {scope : Scope} (bf : BaseF B newId initId bm) {x : XcD} (s : XcSays K x) (hc : x.c = c) (hn : x.newId = newId) (hbm : x.bm = bm)
  (hF : ∃ fd, FunD K "__init__" qual params body scope [] [] (He.ma K (He.ga K c) "__init__") fd) (hg : mg c = some (.ref (He.ga K c))) (S : FnScope [selfS] [selfS] scope)
  (hb : ∀ (kV doc pm : Value) (an : Option Addr) (cdv ct : Value) (us : List Value), us.length = [selfS].length → bindArgs (PySem.W.fnOf "__init__" qual params body scope .none kV doc pm an cdv ct) ⟨us, []⟩ = pure ([selfS].zip us))
  (h : ∀ (cdv : Value) (A : Around) (outer : List PySem.Env) (s : Shared) (H : Hp) (E : XK), ∃ ta : TA, PSs (cxOf (L2.CX P w) P w K mg base [selfS] qual scope (He.ma K (He.ga K c) "__init__") cdv A outer s H E) body (tDrop (tBi K newId bm ta)) ∧
   ∀ (a : Addr) (H : Hp) (Q : List V → Hp → Prop), (∀ z, Q [V.ref a, V.str z] H) → ta [some (.ref a)] H Q) : Xc P w K mg base 1 c []:=by
 subst hc hn hbm
 obtain ⟨fd, F⟩:=hF
 refine ⟨hg, B, _, initId, _, _, fd, bf, s.oe, s.ini, s.fun_, ?_, F.bindsN hb⟩
 refine F.ok S (fun vs H Q E h => spIn_len h) fun cdv A outer s0 H vs Q E hr hsp => ?_
 obtain ⟨ta, h1, h2⟩:=h cdv A outer s0 H E
 obtain ⟨a, rfl, ea, q⟩:=hsp
 exact ⟨_, h1, h2 a H _ fun z => ⟨a, _, [.str z], rfl, (by show 1 ≤ 1000; decide), s.oe, ea, q⟩⟩
end Vz
namespace Vz
open PySem PySem.Spec PyProof.Rows L2
section
variable {T : Tb} {X : Cx} {Wx : WX} {a b : Expr} {pos : Pos}
end
end Vz
namespace Vz
open PySem PySem.Spec PyProof.Rows L2
section
variable {X : Cx}
end
section
variable {T : Tb} {X : Cx} {Wx : WX} {a b e : Expr} {fa fb fe : FE} {pos : Pos}
end
end Vz
namespace Vz
open PySem PySem.Spec PyProof.Rows L2
section
variable {X : Cx}
end
section
variable {T : Tb} {X : Cx} {Wx : WX} {e : Expr} {pos p : Pos} {ga : FA}
end
end Vz
namespace Vz
open PySem PySem.Spec PyProof.Rows L2
section
variable {T : Tb} {X : Cx} {Wx : WX} {pos : Pos} {tg iter : Expr}
end
end Vz
namespace Vz
open PySem PySem.Spec PyProof.Rows L2
section
variable {T : Tb} {X : Cx} {Wx : WX} {a b : Expr} {fa fb : FE} {pos : Pos}
end
end Vz
namespace Vz.Q
open PySem PySem.Spec PyProof.Rows L2 Vz
inductive Tag {α : Sort u} (a : α) : Type
 | mk
def ifB {α : Type} (c : Bool) (a b : α) (_ : Tag a) (_ : Tag b) : α:=match c with
 | true => a
 | false => b
def bindT {α β : Type} (r : R α) (k : α → Sto → R β) (_ : Tag k) : R β:=R.bind r k
def thenT {α : Type} (r : R α) (ρ : Rho) (k : α → Sto → Out) (_ : Tag k) : Out:=R.then r ρ k
def andT (r : Out) (k : FS) (_ : Tag k) : Out:=Out.andThen r k
section
variable {α β : Type}
theorem ifB_t {a b : α} {t : Tag a} {u : Tag b} : ifB true a b t u = a:=rfl
theorem ifB_f {a b : α} {t : Tag a} {u : Tag b} : ifB false a b t u = b:=rfl
theorem bind_ok {a : α} {S : Sto} {k : α → Sto → R β} {t : Tag k} : bindT (.ok a S) k t = k a S:=rfl
theorem bind_exc {x : Exn} {S : Sto} {k : α → Sto → R β} {t : Tag k} : bindT (.exc x S) k t = .exc x S:=rfl
theorem then_ok {a : α} {S : Sto} {ρ : Rho} {k : α → Sto → Out} {t : Tag k} : thenT (.ok a S) ρ k t = k a S:=rfl
theorem then_exc {x : Exn} {S : Sto} {ρ : Rho} {k : α → Sto → Out} {t : Tag k} : thenT (.exc x S) ρ k t = .exc x ρ S:=rfl
theorem andThen_nx {ρ : Rho} {S : Sto} {k : FS} {t : Tag k} : andT (.nx ρ S) k t = k ρ S:=rfl
theorem andThen_rt {w : W} {S : Sto} {k : FS} {t : Tag k} : andT (.rt w S) k t = .rt w S:=rfl
theorem andThen_exc {x : Exn} {ρ : Rho} {S : Sto} {k : FS} {t : Tag k} : andT (.exc x ρ S) k t = .exc x ρ S:=rfl
theorem andThen_bk {ρ : Rho} {S : Sto} {k : FS} {t : Tag k} : andT (.bk ρ S) k t = .bk ρ S:=rfl
theorem andThen_ct {ρ : Rho} {S : Sto} {k : FS} {t : Tag k} : andT (.ct ρ S) k t = .ct ρ S:=rfl
theorem lift_some {a : α} {S : Sto} : R.lift (some a) S = .ok a S:=rfl
theorem ofo_some {a : α} {S : Sto} : R.of (some (a, S)) = .ok a S:=rfl
theorem get_ok {a : α} {S : Sto} : R.get (.ok a S) = some (a, S):=rfl
theorem noX_ok {a : α} {S : Sto} : R.noX (.ok a S) = .ok a S:=rfl
theorem ifO_t {o : Option α} : ifO true o = o:=rfl
end
def varO : Option (Option W) → Sto → R W
 | some (some w), S => .ok w S
 | _, _ => .bad
theorem varO_ {w : W} {S : Sto} : varO (some (some w)) S = .ok w S:=rfl
def rdC : Option C → Option D
 | some (.lst xs) => some (.list xs)
 | some (.frz d) => some d
 | some (.dT ps) => some (.dT ps)
 | some (.dK ps) => some (.dK ps)
 | _ => none
section
variable {ρ : Rho} {S : Sto}
theorem v_var {i : Nat} : fVar i ρ S = varO ρ[i]? S:=by
 unfold fVar
 cases ρ[i]? with
 | none => rfl
 | some o => cases o <;> rfl
theorem v_c {d : D} : fC d ρ S = .ok (.dat d) S:=rfl
theorem v_bin {g : D → D → Option D} {a b : FE} : fBin g a b ρ S = bindT (a ρ S) (fun x S1 => bindT (b ρ S1) (fun y S2 => R.lift ((rd2 S2 x y g).map W.dat) S2) .mk) .mk:=rfl
theorem v_b {f : FE} : fB f ρ S = bindT (f ρ S) (fun w S1 => R.lift (asB w) S1) .mk:=rfl
theorem asB_ {b : Bool} : asB (.dat (.bool b)) = some b:=rfl
theorem v_and {t u : FT} : fAnd t u ρ S = bindT (t ρ S) (fun c S1 => ifB c (u ρ S1) (.ok false S1) .mk .mk) .mk:=rfl
theorem v_or {t u : FT} : fOr t u ρ S = bindT (t ρ S) (fun c S1 => ifB c (.ok true S1) (u ρ S1) .mk .mk) .mk:=rfl
theorem v_not {t : FT} : fNot t ρ S = bindT (t ρ S) (fun c S1 => .ok (!c) S1) .mk:=rfl
theorem v_v {t : FT} : fV t ρ S = bindT (t ρ S) (fun c S1 => .ok (.dat (.bool c)) S1) .mk:=rfl
theorem v_andV {f g : FE} : fAndV f g ρ S = bindT (fB f ρ S) (fun c S1 => ifB c (g ρ S1) (.ok (.dat (.bool false)) S1) .mk .mk) .mk:=rfl
theorem v_orV {f g : FE} : fOrV f g ρ S = bindT (fB f ρ S) (fun c S1 => ifB c (.ok (.dat (.bool true)) S1) (g ρ S1) .mk .mk) .mk:=rfl
theorem v_notV {f : FE} : fNotV f ρ S = bindT (fB f ρ S) (fun c S1 => .ok (.dat (.bool (!c))) S1) .mk:=rfl
theorem v_if {t : FT} {f g : FE} : fIf t f g ρ S = bindT (t ρ S) (fun c S1 => ifB c (f ρ S1) (g ρ S1) .mk .mk) .mk:=rfl
theorem v_chain {g g' : D → D → Option D} {a b c : FE} : fChain g g' a b c ρ S = bindT (a ρ S) (fun x S1 => bindT (b ρ S1) (fun y S2 => bindT (R.lift (((rd2 S2 x y g).map W.dat).bind asB) S2) (fun k S3 => ifB k (bindT (c ρ S3) (fun z S4 => R.lift ((rd2 S4 y z g').map W.dat) S4) .mk) (.ok (.dat (.bool false)) S3) .mk .mk) .mk) .mk) .mk:=rfl
theorem v_anil : aNil ρ S = .ok [] S:=rfl
theorem v_acons {f : FE} {g : FA} : aCons f g ρ S = bindT (f ρ S) (fun w S1 => bindT (g ρ S1) (fun ws S2 => .ok (w :: ws) S2) .mk) .mk:=rfl
theorem v_tup {g : FA} : fTup g ρ S = bindT (g ρ S) (fun ws S1 => R.lift (((dats ws).bind small).map fun ds => .dat (.tup .nod ds)) S1) .mk:=rfl
theorem v_tupK {g : FA} : fTupK g ρ S = bindT (g ρ S) (fun ws S1 => R.lift (((dats ws).bind small).map fun ds => .dat (.tup .key ds)) S1) .mk:=rfl
theorem v_frz {g : FL} : fFrz g ρ S = bindT (g ρ S) (fun ds S1 => .ok (.dat (.list ds)) S1) .mk:=rfl
theorem v_cell {g : FL} : fCell g ρ S = bindT (g ρ S) (fun ds S1 => .ok (.loc S1.length 0) (S1 ++ [.lst ds])) .mk:=rfl
theorem v_disp {g : FA} : lDisp g ρ S = bindT (g ρ S) (fun ws S1 => R.lift ((dats ws).bind small) S1) .mk:=rfl
def lsO : D → Option (List D):=fun d => match d with
 | .list ds => some ds
 | _ => none
theorem lsO_ {ds : List D} : lsO (.list ds) = some ds:=rfl
theorem v_cat {f g : FE} : lCat f g ρ S = bindT (f ρ S) (fun x S1 => bindT (g ρ S1) (fun y S2 => R.lift ((rd2 S2 x y addL).bind lsO) S2) .mk) .mk:=rfl
theorem v_call {g : List D → Option D} {f : FA} : fCall g f ρ S = bindT (f ρ S) (fun ws S1 => R.lift (((rds S1 ws).bind g).map W.dat) S1) .mk:=rfl
theorem v_lcall {g : List D → Option (List D)} {f : FA} : lCall g f ρ S = bindT (f ρ S) (fun ws S1 => R.lift ((rds S1 ws).bind g) S1) .mk:=rfl
theorem v_app {n : Nat} {g : List W → Sto → R W} {f : FA} : fApp n g f ρ S = bindT (f ρ S) (fun ws S1 => ifB (decide (ws.length = n)) (g ws S1) .bad .mk .mk) .mk:=rfl
theorem v_appK {n : Nat} {ix : List Nat} {g : List W → Sto → R W} {f : FA} : fAppK n ix g f ρ S = bindT (f ρ S) (fun ws S1 => ifB (decide (ws.length = n)) (g (reord (.dat .none) ix ws) S1) .bad .mk .mk) .mk:=rfl
theorem v_nil : sNil ρ S = .nx ρ S:=rfl
theorem v_pass : sPass ρ S = .nx ρ S:=rfl
theorem v_seq {g h : FS} : sSeq g h ρ S = andT (g ρ S) h .mk:=rfl
theorem v_break : sBreak ρ S = .bk ρ S:=rfl
theorem v_cont : sCont ρ S = .ct ρ S:=rfl
theorem v_expr {f : FE} : sExpr f ρ S = thenT (f ρ S) ρ (fun _ S1 => .nx ρ S1) .mk:=rfl
theorem v_ret {f : FE} : sRet f ρ S = thenT (f ρ S) ρ (fun w S1 => .rt w S1) .mk:=rfl
theorem v_retN : sRetN ρ S = .rt (.dat .none) S:=rfl
theorem v_sif {t : FT} {g h : FS} : sIf t g h ρ S = thenT (t ρ S) ρ (fun c S1 => ifB c (g ρ S1) (h ρ S1) .mk .mk) .mk:=rfl
theorem v_set {i : Nat} {f : FE} : sSet i f ρ S = thenT (f ρ S) ρ (fun w S1 => .nx (ρ.set i (some w)) S1) .mk:=rfl
theorem v_setLc {i : Nat} {f : FL} : sSetL i true f ρ S = thenT (fCell f ρ S) ρ (fun w S1 => .nx (ρ.set i (some w)) S1) .mk:=rfl
theorem v_setLf {i : Nat} {f : FL} : sSetL i false f ρ S = thenT (fFrz f ρ S) ρ (fun w S1 => .nx (ρ.set i (some w)) S1) .mk:=rfl
theorem v_aug {i : Nat} {g : D → D → Option D} {f : FE} : sAug i g f ρ S = thenT (varO ρ[i]? S) ρ (fun x _ => thenT (f ρ S) ρ (fun y S1 => thenT (R.lift ((rd2 S1 x y g).map W.dat) S1) ρ (fun w S2 => .nx (ρ.set i (some w)) S2) .mk) .mk) .mk:=by
 unfold sAug
 cases ρ[i]? with
 | none => rfl
 | some o => cases o <;> rfl
def parO (i j : Nat) (ρ : Rho) : List W → Sto → Out
 | [v, w], S => .nx ((ρ.set i (some v)).set j (some w)) S
 | _, _ => .bad
theorem parO_ {i j : Nat} {v w : W} : parO i j ρ [v, w] S = .nx ((ρ.set i (some v)).set j (some w)) S:=rfl
theorem v_par {i j : Nat} {f : FA} : sPar i j f ρ S = thenT (f ρ S) ρ (parO i j ρ) .mk:=by
 unfold sPar
 cases f ρ S with
 | ok ws S1 => rcases ws with _ | ⟨a, _ | ⟨b, _ | ⟨c, r⟩⟩⟩ <;> rfl
 | exc x S1 => rfl
 | bad => rfl
def nxO : Option (Rho × Sto) → Out
 | some (ρ, S) => .nx ρ S
 | none => .bad
theorem nxO_ : nxO (some (ρ, S)) = .nx ρ S:=rfl
theorem v_asg {f : FE} {g : FG} : sAsg f g ρ S = thenT (f ρ S) ρ (fun w S1 => nxO (g w ρ S1)) .mk:=by
 unfold sAsg
 cases f ρ S with
 | ok w S1 =>
  show (match g w ρ S1 with | some (ρ2, S2) => Out.nx ρ2 S2 | none => .bad) = nxO (g w ρ S1)
  cases g w ρ S1 with
  | none => rfl
  | some p => rfl
 | exc x S1 => rfl
 | bad => rfl
theorem v_oname {i : Nat} {w : W} : oName i w ρ S = some (ρ.set i (some w), S):=rfl
theorem v_onnil : onNil [] ρ = some ρ:=rfl
theorem v_oncons {g : FG} {gs : List D → Rho → Option Rho} {d : D} {r : List D} : onCons g gs (d :: r) ρ = (g (.dat d) ρ []).bind fun p => gs r p.1:=rfl
theorem v_otup {n : Nat} {gs : List D → Rho → Option Rho} {f : Fl} {ds : List D} : oTup n gs (.dat (.tup f ds)) ρ S = ifO (decide (ds.length = n)) ((gs ds ρ).map fun ρ' => (ρ', S)):=rfl
theorem v_osub {fo fi : FE} {w : W} : oSub fo fi w ρ S = (R.get (fo ρ S)).bind fun p => (R.get (fi ρ p.2)).bind fun q => (stB p.1 q.1 w q.2).map fun S' => (ρ, S'):=rfl
theorem v_fz {f : FE} : fFz f ρ S = bindT (f ρ S) (fun w S1 => R.of (fz w S1)) .mk:=rfl
theorem v_meth {g : W → List W → Sto → Option (W × Sto)} {f : FE} {ga : FA} : fMeth g f ga ρ S = bindT (f ρ S) (fun w S1 => ifB (LstW w S1) (bindT (ga ρ S1) (fun ws S2 => R.of (g w ws S2)) .mk) .bad .mk .mk) .mk:=rfl
theorem v_meth0 {g : W → List W → Sto → Option (W × Sto)} {f : FE} : fMeth0 g f ρ S = bindT (f ρ S) (fun w S1 => ifB (LstW w S1) (R.of (g w [] S1)) .bad .mk .mk) .mk:=rfl
def someR {α : Type} (o : Option Bool) (k : Bool → R α) (_ : Tag k) : R α:=match o with
 | some b => k b
 | none => .bad
theorem someR_ {α : Type} {b : Bool} {k : Bool → R α} {t : Tag k} : someR (some b) k t = k b:=rfl
theorem v_index {f : FE} {ga : FA} : fIndex f ga ρ S = bindT (f ρ S) (fun w S1 => someR ((rd S1 w).bind sqB) (fun b => bindT (ga ρ S1) (fun ws S2 => R.lift (((rd S2 w).bind fun c => (rds S2 ws).bind (one fun d => ixOf b c d)).map fun j => .dat (.int (j : Nat))) S2) .mk) .mk) .mk:=by
 unfold fIndex
 cases f ρ S with
 | ok w S1 =>
  simp only [R.bind, bindT]
  generalize (rd S1 w).bind sqB = o
  cases o <;> rfl
 | exc x S1 => rfl
 | bad => rfl
theorem v_isi {g : D → Bool} {f : FE} : fIsi g f ρ S = bindT (f ρ S) (fun w S1 => R.lift ((rd S1 w).map fun d => .dat (.bool (g d))) S1) .mk:=rfl
theorem v_neg {f : FE} : fNeg f ρ S = bindT (f ρ S) (fun w S1 => R.lift ((asI w).map fun i => .dat (.int (-i))) S1) .mk:=rfl
theorem v_rev {f : FE} : fRev f ρ S = bindT (f ρ S) (fun w S1 => R.lift (((rd S1 w).bind revD).map W.dat) S1) .mk:=rfl
theorem v_range {f : FA} : lRange f ρ S = bindT (f ρ S) (fun ws S1 => R.lift ((dats ws).bind rng1) S1) .mk:=rfl
theorem v_sl {f : FE} {g h : Rho → Sto → R (Option Int)} : fSl f g h ρ S = bindT (f ρ S) (fun w S1 => bindT (g ρ S1) (fun lo S2 => bindT (h ρ S2) (fun hi S3 => R.lift (((rd S3 w).bind (cutD lo hi)).map W.dat) S3) .mk) .mk) .mk:=rfl
theorem v_no : fNo ρ S = .ok none S:=rfl
theorem v_yesI {f : FE} : fYesI f ρ S = bindT (f ρ S) (fun w S1 => R.lift ((asI w).map some) S1) .mk:=rfl
theorem v_dictT : fDictT ρ S = .ok (.loc S.length 0) (S ++ [.dT []]):=rfl
theorem v_iseq {f : FE} : iSeq f ρ S = bindT (f ρ S) (fun w S1 => R.lift (walk S1 w) S1) .mk:=rfl
theorem v_iargs {g : List D → Option (List D)} {f : FA} : iArgs g f ρ S = bindT (f ρ S) (fun ws S1 => R.lift (((dats ws).bind g).map Wk.ds) S1) .mk:=rfl
theorem v_ifr {g : List D → Option (List D)} {f : FA} : iFr g f ρ S = bindT (f ρ S) (fun ws S1 => R.lift (((frds S1 ws).bind g).map Wk.ds) S1) .mk:=rfl
end
section
variable {S : Sto}
theorem rd_dat {d : D} : rd S (.dat d) = some d:=rfl
theorem rd_loc {k : Nat} : rd S (.loc k 0) = rdC S[k]?:=by
 cases q : S[k]? with
 | none => simp only [rd, q]; rfl
 | some c => cases c <;> simp only [rd, q] <;> rfl
theorem rdC_lst {xs : List D} : rdC (some (.lst xs)) = some (.list xs):=rfl
theorem rdC_frz {d : D} : rdC (some (.frz d)) = some d:=rfl
theorem rdC_dT {d : List (List Key × D)} : rdC (some (.dT d)) = some (.dT d):=rfl
theorem rdC_dK {d : List (Key × D)} : rdC (some (.dK d)) = some (.dK d):=rfl
theorem rd2_ {x y : W} {g : D → D → Option D} : rd2 S x y g = (rd S x).bind fun dx => (rd S y).bind fun dy => g dx dy:=rfl
theorem rds_nil : rds S [] = some []:=rfl
theorem rds_cons {w : W} {ws : List W} : rds S (w :: ws) = (rd S w).bind fun d => (rds S ws).bind fun ds => some (d :: ds):=rfl
theorem dats_nil : dats [] = some []:=rfl
theorem dats_cons {d : D} {ws : List W} : dats (.dat d :: ws) = (dats ws).bind fun ds => some (d :: ds):=rfl
theorem small_ {ds : List D} (h : ds.length ≤ 1000) : small ds = some ds:=by
 unfold small
 rw [decide_eq_true (by unfold lim; omega)]
 rfl
theorem small_1 {a : D} : small [a] = some [a]:=rfl
theorem small_2 {a b : D} : small [a, b] = some [a, b]:=rfl
theorem small_3 {a b c : D} : small [a, b, c] = some [a, b, c]:=rfl
theorem small_0 : small [] = some []:=rfl
theorem one_ {α : Type} {g : D → Option α} {d : D} : one g [d] = g d:=rfl
theorem two_ {α : Type} {g : D → D → Option α} {d e : D} : two g [d, e] = g d e:=rfl
def frdC : Option C → Option D
 | some (.frz d) => some d
 | _ => none
theorem frd_dat {d : D} : frd S (.dat d) = some d:=rfl
theorem frd_loc {k : Nat} : frd S (.loc k 0) = frdC S[k]?:=by
 cases q : S[k]? with
 | none => simp only [frd, q]; rfl
 | some c => cases c <;> simp only [frd, q] <;> rfl
theorem frdC_frz {d : D} : frdC (some (.frz d)) = some d:=rfl
theorem frds_nil : frds S [] = some []:=rfl
theorem frds_cons {w : W} {ws : List W} : frds S (w :: ws) = (frd S w).bind fun d => (frds S ws).bind fun ds => some (d :: ds):=rfl
def lstB : Option D → Bool
 | some (.list _) => true
 | _ => false
theorem LstW_ {w : W} : LstW w S = lstB (rd S w):=by
 unfold LstW
 cases rd S w with
 | none => rfl
 | some d => cases d <;> rfl
theorem lstB_ {xs : List D} : lstB (some (.list xs)) = true:=rfl
def lstO (k : Nat) : Option C → Option (Nat × List D)
 | some (.lst xs) => some (k, xs)
 | _ => none
theorem lstC_ {k : Nat} : lstC S (.loc k 0) = lstO k S[k]?:=by
 cases q : S[k]? with
 | none => simp only [lstC, q]; rfl
 | some c => cases c <;> simp only [lstC, q] <;> rfl
theorem lstO_ {k : Nat} {xs : List D} : lstO k (some (.lst xs)) = some (k, xs):=rfl
theorem v_append {k : Nat} {x : W} : mAppend (.loc k 0) [x] S = (lstO k S[k]?).bind fun p => (frd S x).bind fun d => ifO (decide (p.2.length < lim)) (some (.dat .none, S.set p.1 (.lst (p.2 ++ [d])))):=by
 rw [← lstC_]; rfl
def asInt : Option D → Option Int
 | some (.int i) => some i
 | _ => none
theorem asInt_ {i : Int} : asInt (some (.int i)) = some i:=rfl
theorem v_insert {k : Nat} {x y : W} : mInsert (.loc k 0) [y, x] S = (lstO k S[k]?).bind fun p => (frd S x).bind fun d => (asInt (rd S y)).bind fun i => ifO (decide (p.2.length < lim) && (decide (0 ≤ i) && decide (i.natAbs < 2 ^ 63))) (some (.dat .none, S.set p.1 (.lst (p.2.take i.toNat ++ [d] ++ p.2.drop i.toNat)))):=by
 rw [← lstC_]
 unfold mInsert
 dsimp only
 cases lstC S (.loc k 0) with
 | none => rfl
 | some p =>
  cases frd S x with
  | none => rfl
  | some d =>
   dsimp only [Option.bind]
   cases rd S y with
   | none => rfl
   | some d => cases d <;> rfl
def asLs : Option D → Option (List D)
 | some (.list i) => some i
 | _ => none
theorem asLs_ {i : List D} : asLs (some (.list i)) = some i:=rfl
theorem v_extend {k : Nat} {x : W} : mExtend (.loc k 0) [x] S = (lstO k S[k]?).bind fun p => (asLs (rd S x)).bind fun ds => ifO (decide (p.2.length + ds.length ≤ lim)) (some (.dat .none, S.set p.1 (.lst (p.2 ++ ds)))):=by
 rw [← lstC_]
 unfold mExtend
 dsimp only
 cases lstC S (.loc k 0) with
 | none => rfl
 | some p =>
  dsimp only [Option.bind]
  cases rd S x with
  | none => rfl
  | some d => cases d <;> rfl
theorem v_popAt {k : Nat} {x : W} : mPopAt (.loc k 0) [x] S = (lstO k S[k]?).bind fun p => (asInt (rd S x)).bind fun i => ifO (decide (i.natAbs < 2 ^ 63)) ((seqIndex? i p.2.length).bind fun j => (p.2[j]?).map fun d => (.dat d, S.set p.1 (.lst (p.2.eraseIdx j)))):=by
 rw [← lstC_]
 unfold mPopAt
 dsimp only
 cases lstC S (.loc k 0) with
 | none => rfl
 | some p =>
  dsimp only [Option.bind]
  cases rd S x with
  | none => rfl
  | some d => cases d <;> rfl
theorem v_stB {k : Nat} {i w : W} : stB (.loc k 0) i w S = (S[k]?).bind fun c => (rd S i).bind fun di => (frd S w).bind fun d => (putC c di d).map fun c' => S.set k c':=rfl
theorem lim_app {α : Type} {xs : List α} (h : xs.length ≤ 1000) : decide (xs.length < lim) = true:=decide_eq_true (by unfold lim; omega)
theorem lim_le {n : Nat} (h : n ≤ 1000) : decide (n ≤ lim) = true:=decide_eq_true (by unfold lim; omega)
theorem lim_lt {n : Nat} (h : n ≤ 1000) : decide (n < lim) = true:=decide_eq_true (by unfold lim; omega)
theorem addL_ {x y : List D} (h : x.length + y.length ≤ 1000) : addL (.list x) (.list y) = some (.list (x ++ y)):=by
 simp only [addL, lim_le h]; rfl
theorem addD_ll {x y : List D} (h : x.length + y.length ≤ 1000) : addD (.list x) (.list y) = some (.list (x ++ y)):=by
 show orD addI (orD addL (orD addT addS)) _ _ = _
 unfold orD
 rw [show addI (.list x) (.list y) = none from rfl]
 simp only [addL_ h]
theorem addD_tt {x y : List D} (h : x.length + y.length ≤ 1000) : addD (.tup .nod x) (.tup .nod y) = some (.tup .nod (x ++ y)):=by
 show orD addI (orD addL (orD addT addS)) _ _ = _
 unfold orD addT
 rw [show addI (.tup .nod x) (.tup .nod y) = none from rfl, show addL (.tup .nod x) (.tup .nod y) = none from rfl]
 simp only [lim_le h, ifO]
 cases x with
 | nil => rfl
 | cons a x => cases y with
  | nil => simp
  | cons b y => rfl
end

theorem fn_dat {c : Bool} {n : Nat} {d : D} {S : Sto} : Out.fn c n (.rt (.dat d) S) = .ok (.dat d) (S.take n):=rfl
theorem fn_nx {c : Bool} {n : Nat} {ρ : Rho} {S : Sto} : Out.fn c n (.nx ρ S) = .ok (.dat .none) (S.take n):=rfl
theorem fn_exc {c : Bool} {n : Nat} {ρ : Rho} {x : Exn} {S : Sto} : Out.fn c n (.exc x ρ S) = .exc x (S.take n):=rfl
theorem fn_exn {c : Bool} {n : Nat} {x : Exn} {S : Sto} : Out.fn c n (.rt (.exn x) S) = .ok (.exn x) (S.take n):=rfl
def retC (n : Nat) (S : Sto) : Option C → R W
 | some (.lst xs) => .ok (.dat (.list xs)) (S.take n)
 | some (.frz d) => .ok (.dat d) (S.take n)
 | some (.dT ps) => .ok (.dat (.dT ps)) (S.take n)
 | some (.dK ps) => .ok (.dat (.dK ps)) (S.take n)
 | some (.ll xss) => .ok (.dat (.list (xss.map D.list))) (S.take n)
 | some (.ins cl fs) => .ok (.loc n 0) (S.take n ++ [.ins cl fs])
 | some (.old _) => .bad
 | none => .bad
theorem fn_loc {n k : Nat} {S : Sto} (h : n ≤ k) : Out.fn false n (.rt (.loc k 0) S) = retC n S S[k]?:=by
 show retV false n (.loc k 0) S = _
 unfold retV
 dsimp only
 rw [decide_eq_false (by omega)]
 dsimp only
 cases q : S[k]? with
 | none => rfl
 | some c => cases c <;> rfl
theorem retC_lst {n : Nat} {S : Sto} {xs : List D} : retC n S (some (.lst xs)) = .ok (.dat (.list xs)) (S.take n):=rfl
theorem retC_frz {n : Nat} {S : Sto} {d : D} : retC n S (some (.frz d)) = .ok (.dat d) (S.take n):=rfl
theorem retC_dT {n : Nat} {S : Sto} {ps : List (List Key × D)} : retC n S (some (.dT ps)) = .ok (.dat (.dT ps)) (S.take n):=rfl
theorem retC_dK {n : Nat} {S : Sto} {ps : List (Key × D)} : retC n S (some (.dK ps)) = .ok (.dat (.dK ps)) (S.take n):=rfl
def bodyO (g : FS) : Option (Rho × Sto) → Out
 | some (ρ, S) => g ρ S
 | none => .bad
theorem bodyF_ {gg : FG} {g : FS} {d : D} {ρ : Rho} {S : Sto} : bodyF gg g d ρ S = bodyO g (gg (.dat d) ρ S):=by
 unfold bodyF
 cases gg (.dat d) ρ S with
 | none => rfl
 | some p => rfl
theorem bodyO_ {g : FS} {ρ : Rho} {S : Sto} : bodyO g (some (ρ, S)) = g ρ S:=rfl
theorem cutR_nil {n : Nat} : cutR n [] = []:=rfl
theorem cutR_cons {n : Nat} {o : Option W} {ρ : Rho} : cutR n (o :: ρ) = cutW n o :: cutR n ρ:=rfl
theorem cutW_dat {n : Nat} {d : D} : cutW n (some (.dat d)) = some (.dat d):=rfl
theorem cutW_none {n : Nat} : cutW n none = none:=rfl
theorem cutW_exn {n : Nat} {x : Exn} : cutW n (some (.exn x)) = some (.exn x):=rfl
theorem cutW_loc {n k j : Nat} (h : k < n) : cutW n (some (.loc k j)) = some (.loc k j):=by
 show ifO (decide (k < n)) (some (W.loc k j)) = _
 rw [decide_eq_true h]; rfl
theorem cutW_locN {n k j : Nat} (h : n ≤ k) : cutW n (some (.loc k j)) = none:=by
 show ifO (decide (k < n)) (some (W.loc k j)) = _
 rw [decide_eq_false (by omega)]; rfl
theorem v_yes {ρ : Rho} {S : Sto} : fYes ρ S = .ok true S:=rfl
def lcO (t : FT) (f : FE) (S : Sto) : Option Rho → R (Option D)
 | some ρ => bindT (t ρ S).noX (fun c S1 => ifB c (bindT (f ρ S1).noX (fun w S2 => R.lift ((frd S2 w).map some) S2) .mk) (.ok none S1) .mk .mk) .mk
 | none => .bad
theorem v_lcB {gg : FC} {t : FT} {f : FE} {ρ : Rho} {d : D} {S : Sto} : lcB gg t f ρ d S = lcO t f S (gg d ρ):=by
 unfold lcB
 cases gg d ρ with
 | none => rfl
 | some ρ2 =>
  show R.bind _ _ = R.bind _ _
  congr 1
theorem lcO_ {t : FT} {f : FE} {S : Sto} {ρ : Rho} : lcO t f S (some ρ) = bindT (t ρ S).noX (fun c S1 => ifB c (bindT (f ρ S1).noX (fun w S2 => R.lift ((frd S2 w).map some) S2) .mk) (.ok none S1) .mk .mk) .mk:=rfl
theorem v_cname {i : Nat} {d : D} {ρ : Rho} : cName i d ρ = some (ρ.set i (some (.dat d))):=rfl
theorem v_ctup {n : Nat} {gs : List D → Rho → Option Rho} {f : Fl} {ds : List D} {ρ : Rho} : cTup n gs (.tup f ds) ρ = ifO (decide (ds.length = n)) (gs ds ρ):=rfl
theorem v_cnnil {ρ : Rho} : cnNil [] ρ = some ρ:=rfl
theorem v_cncons {i : Nat} {gs : List D → Rho → Option Rho} {d : D} {ds : List D} {ρ : Rho} : cnCons i gs (d :: ds) ρ = gs ds (ρ.set i (some (.dat d))):=rfl
theorem bb_tf : (true == false) = false:=rfl
theorem bb_ft : (false == true) = false:=rfl
theorem bb_tt : (true == true) = true:=rfl
theorem bb_ff : (false == false) = true:=rfl
theorem bn_tf : (true != false) = true:=rfl
theorem bn_ft : (false != true) = true:=rfl
theorem bn_tt : (true != true) = false:=rfl
theorem bn_ff : (false != false) = false:=rfl
end Vz.Q
namespace Vz.Q
open PySem PySem.Spec PyProof.Rows L2 Vz
local macro_rules
 | `(tactic| simp_arith [$hs,*]) => `(tactic| simp -implicitDefEqProofs -dsimp (disch:=first | assumption | omega | (simp only [List.length_map, List.length_append, List.length_cons, List.length_nil, List.length_range, List.length_take, List.length_drop, List.length_replicate, List.length_reverse, List.length_zipIdx]; omega)) only [Vz.Q.ifB_t, Vz.Q.ifB_f, Vz.Q.bind_ok, Vz.Q.bind_exc, Vz.Q.then_ok, Vz.Q.then_exc, Vz.Q.andThen_nx, Vz.Q.andThen_rt, Vz.Q.andThen_exc, Vz.Q.andThen_bk, Vz.Q.andThen_ct, Vz.Q.lift_some, Vz.Q.ofo_some, Vz.Q.get_ok, Vz.Q.noX_ok, Vz.Q.ifO_t, Vz.Q.varO_, Vz.Q.v_var, Vz.Q.v_c, Vz.Q.v_bin, Vz.Q.v_b, Vz.Q.asB_, Vz.Q.v_and, Vz.Q.v_or, Vz.Q.v_not, Vz.Q.v_v, Vz.Q.v_andV, Vz.Q.v_orV, Vz.Q.v_notV, Vz.Q.v_if, Vz.Q.v_chain, Vz.Q.v_anil, Vz.Q.v_acons, Vz.Q.v_tup, Vz.Q.v_tupK, Vz.Q.v_frz, Vz.Q.v_cell, Vz.Q.v_disp, Vz.Q.lsO_, Vz.Q.v_cat, Vz.Q.v_call, Vz.Q.v_lcall, Vz.Q.v_app, Vz.Q.v_appK, Vz.Q.v_nil, Vz.Q.v_pass, Vz.Q.v_seq, Vz.Q.v_break, Vz.Q.v_cont, Vz.Q.v_expr, Vz.Q.v_ret, Vz.Q.v_retN, Vz.Q.v_sif, Vz.Q.v_set, Vz.Q.v_setLc, Vz.Q.v_setLf, Vz.Q.v_aug, Vz.Q.parO_, Vz.Q.v_par, Vz.Q.nxO_, Vz.Q.v_asg, Vz.Q.v_oname, Vz.Q.v_onnil, Vz.Q.v_oncons, Vz.Q.v_otup, Vz.Q.v_osub, Vz.Q.v_fz, Vz.Q.v_meth, Vz.Q.v_meth0, Vz.Q.someR_, Vz.Q.v_index, Vz.Q.v_isi, Vz.Q.v_neg, Vz.Q.v_rev, Vz.Q.v_range, Vz.Q.v_sl, Vz.Q.v_no, Vz.Q.v_yesI, Vz.Q.v_dictT, Vz.Q.v_iseq, Vz.Q.v_iargs, Vz.Q.v_ifr, Vz.Q.rd_dat, Vz.Q.rd_loc, Vz.Q.rdC_lst, Vz.Q.rdC_frz, Vz.Q.rdC_dT, Vz.Q.rdC_dK, Vz.Q.rd2_, Vz.Q.rds_nil, Vz.Q.rds_cons, Vz.Q.dats_nil, Vz.Q.dats_cons, Vz.Q.small_1, Vz.Q.small_2, Vz.Q.small_3, Vz.Q.small_0, Vz.Q.small_, Vz.Q.one_, Vz.Q.two_, Vz.Q.frd_dat, Vz.Q.frd_loc, Vz.Q.frdC_frz, Vz.Q.frds_nil, Vz.Q.frds_cons, Vz.Q.LstW_, Vz.Q.lstB_, Vz.Q.lstC_, Vz.Q.lstO_, Vz.Q.v_append, Vz.Q.v_insert, Vz.Q.v_extend, Vz.Q.v_popAt, Vz.Q.asInt_, Vz.Q.asLs_, Vz.Q.v_stB, Vz.Q.lim_app, Vz.Q.lim_le, Vz.Q.lim_lt, Vz.Q.addL_, Vz.Q.addD_ll, Vz.Q.addD_tt, Option.bind_some, Option.map_some, addD_ii, subI_ii, ltI_ii, leI_ii, gtI_ii, geI_ii, eqD_ii, isN_non, isN_int, isN_str, List.getElem?_cons_zero, List.getElem?_cons_succ, List.set_cons_zero, List.set_cons_succ, List.length_cons, List.length_nil, List.length_append, Nat.zero_add, Nat.add_zero, Nat.reduceAdd, Nat.reduceSub, Nat.reduceEqDiff, at_app0, at_appk, set_app0, set_appk, List.append_assoc, List.cons_append, List.nil_append, List.append_nil, List.map_cons, List.map_nil, List.replicate, Vz.Q.fn_dat, Vz.Q.fn_nx, Vz.Q.fn_exc, Vz.Q.fn_exn, Vz.Q.fn_loc, Vz.Q.retC_lst, Vz.Q.retC_frz, Vz.Q.retC_dT, Vz.Q.retC_dK, Vz.Q.bodyF_, Vz.Q.bodyO_, Vz.Q.cutR_nil, Vz.Q.cutR_cons, Vz.Q.cutW_dat, Vz.Q.cutW_none, Vz.Q.cutW_exn, Vz.Q.cutW_loc, Vz.Q.cutW_locN, wipeR, List.take_succ_cons, List.take_length, List.take_left, take_appk, List.take_zero, List.take_nil, Vz.Q.v_yes, Vz.Q.v_lcB, Vz.Q.lcO_, Vz.Q.v_cname, Vz.Q.v_ctup, Vz.Q.v_cnnil, Vz.Q.v_cncons, Vz.Q.bb_tf, Vz.Q.bb_ft, Vz.Q.bb_tt, Vz.Q.bb_ff, Vz.Q.bn_tf, Vz.Q.bn_ft, Vz.Q.bn_tt, Vz.Q.bn_ff, eqD_bb, neD_bb, Bool.not_true, Bool.not_false, Bool.and_true, Bool.true_and, Bool.and_self, decide_true, decide_false, eq_self, $hs,*])
structure Rp (w k : Nat) (d : D) : Prop where
 ok : okD d = true
 dp : dep d ≤ k
 sh : d.py.leavesShort 30 = true
 sw : d.py.showable = true
 wt : d.py.weight ≤ w
theorem Rp.le {w k w' k' : Nat} {d : D} (h : Rp w k d) (hw : w ≤ w') (hk : k ≤ k') : Rp w' k' d:=⟨h.ok, Nat.le_trans h.dp hk, h.sh, h.sw, Nat.le_trans h.wt hw⟩
theorem Rp.shp {w k : Nat} {d : D} (h : Rp w k d) (hk : k ≤ 60) : Vz.shp d = true:=shp_ok h.ok (by have:=h.dp; omega)
theorem walk_dl {S : Sto} {xs : List D} : walk S (.dat (.list xs)) = some (.ds xs):=rfl
theorem walk_dt {S : Sto} {f : Fl} {xs : List D} : walk S (.dat (.tup f xs)) = some (.ds xs):=rfl
theorem enumD_l {xs : List D} : enumD (.list xs) = some (nums 0 xs):=rfl
theorem enumD_t {f : Fl} {xs : List D} : enumD (.tup f xs) = some (nums 0 xs):=rfl
theorem nums_map {α : Type} (enc : α → D) : ∀ (xs : List α) (k : Nat), nums k (xs.map enc) = (xs.zipIdx k).map fun p => .tup .key [.int (p.2 : Nat), enc p.1]
 | [], _ => rfl
 | x :: xs, k => by
  show _ :: nums (k + 1) (xs.map enc) = _
  rw [nums_map enc xs (k + 1)]
  rfl
theorem inD_l {neg : Bool} {p : Int} {xs : List Int} : inD neg (.int p) (.list (xs.map D.int)) = some (.bool (xor neg (decide (p ∈ xs)))):=inD_seq rfl
theorem inD_t {neg : Bool} {p : Int} {xs : List Int} {f : Fl} : inD neg (.int p) (.tup f (xs.map D.int)) = some (.bool (xor neg (decide (p ∈ xs)))):=inD_seq rfl
theorem isNN_non : isNN .none .none = some (.bool false):=rfl
theorem isNN_int (i : Int) : isNN (.int i) .none = some (.bool true):=rfl
theorem isNN_str (i : Str) : isNN (.str i) .none = some (.bool true):=rfl
theorem sqB_l {x : List D} : sqB (.list x) = some false:=rfl
theorem sqB_t {x : List D} : sqB (.tup .nod x) = some true:=rfl
theorem listD_l {x : List D} : listD [.list x] = some x:=rfl
theorem listD_t {x : List D} {f : Fl} : listD [.tup f x] = some x:=rfl
theorem tupleD_l {x : List D} : tupleD [.list x] = some (.tup .nod x):=rfl
theorem tupleD_t {x : List D} {f : Fl} : tupleD [.tup f x] = some (.tup f x):=rfl
theorem lenD_l {x : List D} : lenD [.list x] = some (.int (x.length : Nat)):=rfl
theorem lenD_t {x : List D} {f : Fl} : lenD [.tup f x] = some (.int (x.length : Nat)):=rfl
theorem cutD_l {lo hi : Option Int} {x : List D} : cutD lo hi (.list x) = some (.list (cutL x lo hi)):=rfl
theorem cutD_n {lo hi : Option Int} {x : List D} : cutD lo hi (.tup .nod x) = some (.tup .nod (cutL x lo hi)):=cut_nod
theorem revD_l {x : List D} : revD (.list x) = some (.list x.reverse):=rfl
theorem fz_dat {d : D} {S : Sto} : fz (.dat d) S = some (.dat d, S):=rfl
def fzC (k : Nat) (S : Sto) : Option C → Option (W × Sto)
 | some (.lst xs) => some (.dat (.list xs), S.set k (.frz (.list xs)))
 | some (.frz d) => some (.dat d, S)
 | some (.dT ps) => some (.dat (.dT ps), S.set k (.frz (.dT ps)))
 | some (.dK ps) => some (.dat (.dK ps), S.set k (.frz (.dK ps)))
 | _ => none
theorem fz_loc {k : Nat} {S : Sto} : fz (.loc k 0) S = fzC k S S[k]?:=by
 cases q : S[k]? with
 | none => simp only [fz, q]; rfl
 | some c => cases c <;> simp only [fz, q] <;> rfl
theorem fzC_lst {k : Nat} {S : Sto} {xs : List D} : fzC k S (some (.lst xs)) = some (.dat (.list xs), S.set k (.frz (.list xs))):=rfl
theorem fzC_frz {k : Nat} {S : Sto} {d : D} : fzC k S (some (.frz d)) = some (.dat d, S):=rfl
theorem ixN_nat {n i : Nat} (h : i < n) : ixN n (i : Int) = some i:=by
 unfold ixN
 rw [if_pos (by omega), if_pos (by omega)]
 simp
theorem atI_nat {α : Type} {xs : List α} {i : Nat} {a : α} (h : xs[i]? = some a) : atI xs (i : Int) = some a:=by
 have hl:=(List.getElem?_eq_some_iff.mp h).1
 unfold atI
 rw [ixN_nat hl]
 exact h
theorem ixD_l {xs : List D} {i : Nat} {a : D} (h : xs[i]? = some a) : ixD (.list xs) (.int (i : Int)) = some a:=atI_nat h
theorem ixD_t {xs : List D} {f : Fl} {i : Nat} {a : D} (h : xs[i]? = some a) : ixD (.tup f xs) (.int (i : Int)) = some a:=atI_nat h
theorem draw_nat {G : List W → Sto → R W} (hG : DrawB G) {x : C} {m n : Nat} (hx : SrcOk (m + 2) x) (h0 : 0 < n) (hn : n ≤ 10 ^ 10) : ∃ (r : Nat) (y : C), DrawU G x n r y ∧ r < n ∧ SrcOk m y:=by
 obtain ⟨r, y, h1, h2, h3, h4⟩:=hG m x n hx (by omega) (by omega)
 obtain ⟨k, rfl⟩ : ∃ k : Nat, r = (k : Int):=⟨r.toNat, by omega⟩
 exact ⟨k, y, h1, by omega, h4⟩
end Vz.Q
namespace Vz.Q
open PySem PySem.Spec PyProof.Rows L2 Vz
def tryO (L cl : List Str) (i : Nat) (gs : FS) : Out → Out
 | .exc x ρ1 S1 => ifB (L.contains x.cls) (ifB (cl.contains x.cls) ((gs (ρ1.set i (some (.exn x))) S1).drop1 i) (.exc x ρ1 S1) .mk .mk) .bad .mk .mk
 | r => r
theorem v_try {L cl : List Str} {i : Nat} {gb gs : FS} {ρ : Rho} {S : Sto} : sTry L cl i gb gs ρ S = tryO L cl i gs (gb ρ S):=by
 unfold sTry
 cases gb ρ S with
 | exc x ρ1 S1 =>
  show (match L.contains x.cls with | true => (match cl.contains x.cls with | true => (gs (ρ1.set i (some (.exn x))) S1).drop1 i | false => Out.exc x ρ1 S1) | false => .bad) = ifB (L.contains x.cls) (ifB (cl.contains x.cls) ((gs (ρ1.set i (some (.exn x))) S1).drop1 i) (.exc x ρ1 S1) .mk .mk) .bad .mk .mk
  cases L.contains x.cls with
  | false => rfl
  | true => cases cl.contains x.cls <;> rfl
 | _ => rfl
theorem try_exc {L cl : List Str} {i : Nat} {gs : FS} {x : Exn} {ρ : Rho} {S : Sto} : tryO L cl i gs (.exc x ρ S) = ifB (L.contains x.cls) (ifB (cl.contains x.cls) ((gs (ρ.set i (some (.exn x))) S).drop1 i) (.exc x ρ S) .mk .mk) .bad .mk .mk:=rfl
theorem try_nx {L cl : List Str} {i : Nat} {gs : FS} {ρ : Rho} {S : Sto} : tryO L cl i gs (.nx ρ S) = .nx ρ S:=rfl
theorem try_rt {L cl : List Str} {i : Nat} {gs : FS} {w : W} {S : Sto} : tryO L cl i gs (.rt w S) = .rt w S:=rfl
theorem drop_nx {i : Nat} {ρ : Rho} {S : Sto} : Out.drop1 i (.nx ρ S) = .nx (ρ.set i none) S:=rfl
theorem drop_rt {i : Nat} {w : W} {S : Sto} : Out.drop1 i (.rt w S) = .rt w S:=rfl
def r1O (c f : Str) (ρ : Rho) : List W → Sto → Out
 | [.dat d], S => .exc ⟨c, [(f, d)]⟩ ρ S
 | _, _ => .bad
theorem v_raise1 {c f : Str} {g : FA} {ρ : Rho} {S : Sto} : sRaise1 c f g ρ S = thenT (g ρ S) ρ (r1O c f ρ) .mk:=by
 unfold sRaise1
 cases g ρ S with
 | ok ws S1 => rcases ws with _ | ⟨a, _ | ⟨b, r⟩⟩ <;> first | rfl | (cases a <;> rfl)
 | exc x S1 => rfl
 | bad => rfl
theorem r1O_ {c f : Str} {d : D} {ρ : Rho} {S : Sto} : r1O c f ρ [.dat d] S = .exc ⟨c, [(f, d)]⟩ ρ S:=rfl
theorem v_raise0 {c : Str} {ρ : Rho} {S : Sto} : sRaise0 c ρ S = .exc ⟨c, []⟩ ρ S:=rfl
theorem v_isNo {f : FE} {ρ : Rho} {S : Sto} : fIsN f ρ S = bindT (f ρ S) (fun w S1 => .ok (.dat (.bool (isNoW w))) S1) .mk:=rfl
theorem v_isNoN {f : FE} {ρ : Rho} {S : Sto} : fIsNN f ρ S = bindT (f ρ S) (fun w S1 => .ok (.dat (.bool (!isNoW w))) S1) .mk:=rfl
theorem isNo_non : isNoW (.dat .none) = true:=rfl
theorem isNo_exn {x : Exn} : isNoW (.exn x) = false:=rfl
def isXW (L : List Str) (g : Str → Bool) (S : Sto) : W → R W
 | .exn x => ifB (L.contains x.cls) (.ok (.dat (.bool (g x.cls))) S) .bad .mk .mk
 | _ => .bad
theorem v_isX {L : List Str} {g : Str → Bool} {f : FE} {ρ : Rho} {S : Sto} : fIsX L g f ρ S = bindT (f ρ S) (fun w S1 => isXW L g S1 w) .mk:=by
 unfold fIsX
 cases f ρ S with
 | ok w S1 =>
  cases w with
  | exn x =>
   show (match L.contains x.cls with | true => R.ok (W.dat (.bool (g x.cls))) S1 | false => .bad) = ifB (L.contains x.cls) (.ok (.dat (.bool (g x.cls))) S1) .bad .mk .mk
   cases L.contains x.cls <;> rfl
  | _ => rfl
 | exc x S1 => rfl
 | bad => rfl
theorem isXW_ {L : List Str} {g : Str → Bool} {S : Sto} {x : Exn} : isXW L g S (.exn x) = ifB (L.contains x.cls) (.ok (.dat (.bool (g x.cls))) S) .bad .mk .mk:=rfl
def xfW (L : List Str) (n : Str) (S : Sto) : W → R W
 | .exn x => ifB (L.contains x.cls) (R.lift ((x.fs.lookup n).map W.dat) S) .bad .mk .mk
 | _ => .bad
theorem v_xf {L : List Str} {n : Str} {f : FE} {ρ : Rho} {S : Sto} : fXf L n f ρ S = bindT (f ρ S) (fun w S1 => xfW L n S1 w) .mk:=by
 unfold fXf
 cases f ρ S with
 | ok w S1 =>
  cases w with
  | exn x =>
   show (match L.contains x.cls with | true => R.lift ((x.fs.lookup n).map W.dat) S1 | false => .bad) = ifB (L.contains x.cls) (R.lift ((x.fs.lookup n).map W.dat) S1) .bad .mk .mk
   cases L.contains x.cls <;> rfl
  | _ => rfl
 | exc x S1 => rfl
 | bad => rfl
theorem xfW_ {L : List Str} {n : Str} {S : Sto} {x : Exn} : xfW L n S (.exn x) = ifB (L.contains x.cls) (R.lift ((x.fs.lookup n).map W.dat) S) .bad .mk .mk:=rfl
theorem v_oseq_t {n : Nat} {gs : List D → Rho → Option Rho} {f : Fl} {ds : List D} {ρ : Rho} {S : Sto} : oSeq n gs (.dat (.tup f ds)) ρ S = ifO (decide (ds.length = n)) ((gs ds ρ).map fun ρ' => (ρ', S)):=rfl
theorem v_oseq_l {n : Nat} {gs : List D → Rho → Option Rho} {ds : List D} {ρ : Rho} {S : Sto} : oSeq n gs (.dat (.list ds)) ρ S = ifO (decide (ds.length = n)) ((gs ds ρ).map fun ρ' => (ρ', S)):=rfl
end Vz.Q
namespace Vz.Q
open PySem PySem.Spec PyProof.Rows L2 Vz
def SO (x : Str) : Prop:=∀ c ∈ x.cps.toList, c < 1114112
theorem so_iff {x : Str} : PyData.strOk x = true ↔ SO x:=by
 show (x.cps.all fun c => decide (c < 1114112)) = true ↔ _
 rw [Array.all_eq_true']
 constructor
 ·intro h c hc
  exact of_decide_eq_true (h c (Array.mem_toList_iff.mp hc))
 ·intro h c hc
  exact decide_eq_true (h c (Array.mem_toList_iff.mpr hc))
theorem so_app {x y : Str} (h1 : SO x) (h2 : SO y) : SO (x ++ y):=by
 intro c hc
 have e : (x ++ y).cps.toList = x.cps.toList ++ y.cps.toList:=by
  show (x.cps ++ y.cps).toList = _
  exact Array.toList_append
 rw [e] at hc
 rcases List.mem_append.mp hc with hc | hc
 ·exact h1 c hc
 ·exact h2 c hc
theorem char_lt (c : Char) : c.toNat < 1114112:=by
 have h:=c.valid
 rcases h with h | ⟨_, h⟩
 ·show c.val.toNat < _
  have : c.val.toNat < 0xd800:=h
  omega
 ·show c.val.toNat < _
  have : c.val.toNat < 0x110000:=h
  omega
theorem so_of (s : String) : SO (Str.ofString s):=by
 intro c hc
 have e : (Str.ofString s).cps.toList = s.toList.map Char.toNat:=by
  rw [Str.ofString_eq_toList]
 rw [e] at hc
 obtain ⟨k, _, rfl⟩:=List.mem_map.mp hc
 exact char_lt k
theorem so_from : ∀ (ts : List Str) (k : Nat) (acc : Str), SO acc → (∀ t ∈ ts, SO t) → SO (textFrom k acc ts)
 | [], _, _, h, _ => h
 | t :: r, k, acc, h, ht => so_from r (k + 1) _ (so_app (so_app h (by split <;> exact so_of _)) (ht t (List.mem_cons_self ..))) fun x hx => ht x (List.mem_cons_of_mem _ hx)
theorem so_join {sep : Str} (hs : SO sep) : ∀ ts : List Str, (∀ t ∈ ts, SO t) → SO (Str.join sep ts)
 | [], _ => by intro c hc; cases hc
 | [x], h => h x (List.mem_cons_self ..)
 | x :: y :: r, h => so_app (so_app (h x (List.mem_cons_self ..)) hs) (so_join hs (y :: r) fun t ht => h t (List.mem_cons_of_mem _ ht))
theorem so_list {ts : List Str} (h : ∀ t ∈ ts, SO t) : SO (listText ts):=so_app (so_from ts 0 _ (so_of _) h) (so_of _)
theorem so_tuple {ts : List Str} (h : ∀ t ∈ ts, SO t) : SO (tupleText ts):=so_app (so_app (so_of _) (so_join (so_of _) ts h)) (by split <;> exact so_of _)
theorem so_hex (c w : Nat) : ∀ x ∈ List.replicate (w - ((Nat.toDigits 16 c).map Char.toNat).length) 48 ++ (Nat.toDigits 16 c).map Char.toNat, x < 1114112:=by
 intro x hx
 rcases List.mem_append.mp hx with hx | hx
 ·rw [List.eq_of_mem_replicate hx]; decide
 ·obtain ⟨k, _, rfl⟩:=List.mem_map.mp hx
  exact char_lt k
theorem so_char {q c : Nat} (hc : c < 1114112) : ∀ x ∈ Builtin.Str.reprChar q c, x < 1114112:=by
 intro x hx
 have h:=fun w => so_hex c w x
 unfold Builtin.Str.reprChar at hx
 simp only [] at hx
 split at hx
 ·rcases List.mem_cons.mp hx with rfl | hx
  ·decide
  ·rcases List.mem_singleton.mp hx with rfl; exact hc
 split at hx
 ·rcases List.mem_cons.mp hx with rfl | hx
  ·decide
  ·rcases List.mem_singleton.mp hx with rfl; decide
 split at hx
 ·rcases List.mem_cons.mp hx with rfl | hx
  ·decide
  ·rcases List.mem_singleton.mp hx with rfl; decide
 split at hx
 ·rcases List.mem_cons.mp hx with rfl | hx
  ·decide
  ·rcases List.mem_singleton.mp hx with rfl; decide
 split at hx
 ·rcases List.mem_singleton.mp hx with rfl; exact hc
 split at hx
 ·rcases List.mem_append.mp hx with hx | hx
  ·rcases List.mem_cons.mp hx with rfl | hx
   ·decide
   ·rcases List.mem_singleton.mp hx with rfl; decide
  ·exact h 2 hx
 split at hx
 ·rcases List.mem_append.mp hx with hx | hx
  ·rcases List.mem_cons.mp hx with rfl | hx
   ·decide
   ·rcases List.mem_singleton.mp hx with rfl; decide
  ·exact h 4 hx
 ·rcases List.mem_append.mp hx with hx | hx
  ·rcases List.mem_cons.mp hx with rfl | hx
   ·decide
   ·rcases List.mem_singleton.mp hx with rfl; decide
  ·exact h 8 hx
theorem so_fold {q : Nat} : ∀ (l : List Nat) (acc : Array Nat), (∀ c ∈ l, c < 1114112) → (∀ c ∈ acc.toList, c < 1114112) → ∀ c ∈ (l.foldl (fun out c => out ++ (Builtin.Str.reprChar q c).toArray) acc).toList, c < 1114112
 | [], _, _, h => h
 | d :: l, acc, hl, h => so_fold l _ (fun c hc => hl c (List.mem_cons_of_mem _ hc)) fun c hc => by
  rw [Array.toList_append] at hc
  rcases List.mem_append.mp hc with hc | hc
  ·exact h c hc
  ·exact so_char (hl d (List.mem_cons_self ..)) c (by simpa using hc)
theorem so_repr {x : Str} (h : SO x) : SO (reprText x):=by
 have hq : reprQuote x < 1114112:=by
  unfold reprQuote
  split <;> decide
 intro c hc
 unfold reprText at hc
 rw [Array.toList_push, ← Array.foldl_toList] at hc
 rcases List.mem_append.mp hc with hc | hc
 ·exact so_fold _ _ h (fun c hc => by
   rcases List.mem_singleton.mp hc with rfl
   exact hq) c hc
 ·rcases List.mem_singleton.mp hc with rfl
  exact hq
mutual
theorem so_shown : ∀ d : D, okD d = true → SO d.py.shown
 | .none, _ => so_of "None"
 | .bool b, _ => by
  show SO (PyData.shown (.bool b))
  simp only [PyData.shown]
  split <;> exact so_of _
 | .int i, _ => by
  show SO (PyData.shown (.int i))
  simp only [PyData.shown]
  exact so_of _
 | .str x, h => by
  show SO (PyData.shown (.str x))
  simp only [PyData.shown]
  exact so_repr (so_iff.mp h)
 | .list xs, h => by
  show SO (PyData.shown (.list (pyAll xs)))
  simp only [PyData.shown]
  exact so_list (so_showns xs (Bool.and_eq_true_iff.mp h).1)
 | .tup f xs, h => by
  show SO (PyData.shown (.tuple (pyAll xs)))
  simp only [PyData.shown]
  exact so_tuple (so_showns xs (Bool.and_eq_true_iff.mp h).1)
theorem so_showns : ∀ ds : List D, okDs ds = true → ∀ t ∈ PyData.shownAll (pyAll ds), SO t
 | [], _, _, ht => nomatch ht
 | d :: ds, h, t, ht => by
  obtain ⟨h1, h2⟩:=Bool.and_eq_true_iff.mp h
  have ht : t ∈ PyData.shownAll (d.py :: pyAll ds):=ht
  simp only [PyData.shownAll] at ht
  rcases List.mem_cons.mp ht with rfl | ht
  ·exact so_shown d h1
  ·exact so_showns ds h2 t ht
end
theorem eqv_str (x : Str) : PyData.eqv (.str x) (.str x) = true:=by simp [PyData.eqv]
theorem ne_str {x : Str} (h : SO x) : neD (.str x) (.str x) = some (.bool false):=by
 have hs : Vz.shp (.str x) = true:=shp_ok (so_iff.mpr h) (Nat.zero_le _)
 rw [neD_of hs hs]
 show some (D.bool (!PyData.eqv (.str x) (.str x))) = _
 rw [eqv_str]
 rfl
theorem Rp.ne {w k : Nat} {d : D} (h : Rp w k d) : neD (.str d.py.shown) (.str d.py.shown) = some (.bool false):=ne_str (so_shown d h.ok)
theorem src_start {q : Nat} (c i : Int) (hq : q < 2 ^ 39) : SrcOk q (.lst [.int (srcA c), .int (srcB c i), .int 0]):=by
 refine ⟨srcA c, srcB c i, 0, rfl, Int.emod_nonneg _ (by decide), ?_, by decide, by omega⟩
 have:=Int.emod_lt_of_pos ((c % 2147483563 + 88001 * i + 61) * 39869) (b:=2147483543) (by decide)
 unfold srcB
 omega
end Vz.Q
namespace Vz
open PySem PySem.Spec PyProof.Rows L2
variable {T : Tb} {X : Cx} {Wx : WX} {a b c : Expr} {pos : Pos}
def sPar3 (i j l : Nat) (f : FA) : FS:=fun ρ S => (f ρ S).then ρ fun ws S1 => match ws with
 | [u, v, w] => .nx (((ρ.set i (some u)).set j (some v)).set l (some w)) S1
 | _ => .bad
end Vz
namespace Vz.Q
open PySem PySem.Spec PyProof.Rows L2 Vz
def par3O (i j l : Nat) (ρ : Rho) : List W → Sto → Out
 | [u, v, w], S => .nx (((ρ.set i (some u)).set j (some v)).set l (some w)) S
 | _, _ => .bad
theorem par3O_ {i j l : Nat} {u v w : W} {ρ : Rho} {S : Sto} : par3O i j l ρ [u, v, w] S = .nx (((ρ.set i (some u)).set j (some v)).set l (some w)) S:=rfl
theorem v_par3 {i j l : Nat} {f : FA} {ρ : Rho} {S : Sto} : sPar3 i j l f ρ S = thenT (f ρ S) ρ (par3O i j l ρ) .mk:=by
 unfold sPar3
 cases f ρ S with
 | ok ws S1 => rcases ws with _ | ⟨a, _ | ⟨b, _ | ⟨c, _ | ⟨d, r⟩⟩⟩⟩ <;> rfl
 | exc x S1 => rfl
 | bad => rfl
end Vz.Q
namespace Vz
open PySem PySem.Spec PyProof.Rows L2
section
variable {T : Tb} {X : Cx} {Wx : WX} {ga : FA}
def seqK : Bool → D → Option (List D)
 | false, .list xs => some xs
 | true, .tup _ xs => some xs
 | _, _ => none
def kndD : D → Option Bool
 | .list _ => some false
 | .tup _ _ => some true
 | _ => none
def zipS (p q : Bool) (v w : W) (S : Sto) : Option (List D):=((rd S v).bind (seqK p)).bind fun xs => ((rd S w).bind (seqK q)).map (pairs xs)
def izD (S : Sto) (v w : W) : Option Wk:=((rd S v).bind kndD).bind fun p => ((rd S w).bind kndD).map fun q => .dyn (zipS p q v w)
def izW (S : Sto) : List W → Option Wk
 | [v, w] => match (frds S [v, w]).bind (two zipD) with
  | some ds => some (.ds ds)
  | none => izD S v w
 | _ => none
def iZd (f : FA) : FI:=fun ρ S => (f ρ S).bind fun ws S1 => R.lift (izW S1 ws) S1
end
end Vz
namespace Vz.Q
open PySem PySem.Spec PyProof.Rows L2 Vz
local macro_rules
 | `(tactic| simp_arith [$hs,*]) => `(tactic| simp -implicitDefEqProofs -dsimp (disch:=first | assumption | omega | (simp only [List.length_map, List.length_append, List.length_cons, List.length_nil, List.length_range, List.length_take, List.length_drop, List.length_replicate, List.length_reverse, List.length_zipIdx]; omega)) only [Vz.Q.ifB_t, Vz.Q.ifB_f, Vz.Q.bind_ok, Vz.Q.bind_exc, Vz.Q.then_ok, Vz.Q.then_exc, Vz.Q.andThen_nx, Vz.Q.andThen_rt, Vz.Q.andThen_exc, Vz.Q.andThen_bk, Vz.Q.andThen_ct, Vz.Q.lift_some, Vz.Q.ofo_some, Vz.Q.get_ok, Vz.Q.noX_ok, Vz.Q.ifO_t, Vz.Q.varO_, Vz.Q.v_var, Vz.Q.v_c, Vz.Q.v_bin, Vz.Q.v_b, Vz.Q.asB_, Vz.Q.v_and, Vz.Q.v_or, Vz.Q.v_not, Vz.Q.v_v, Vz.Q.v_andV, Vz.Q.v_orV, Vz.Q.v_notV, Vz.Q.v_if, Vz.Q.v_chain, Vz.Q.v_anil, Vz.Q.v_acons, Vz.Q.v_tup, Vz.Q.v_tupK, Vz.Q.v_frz, Vz.Q.v_cell, Vz.Q.v_disp, Vz.Q.lsO_, Vz.Q.v_cat, Vz.Q.v_call, Vz.Q.v_lcall, Vz.Q.v_app, Vz.Q.v_appK, Vz.Q.v_nil, Vz.Q.v_pass, Vz.Q.v_seq, Vz.Q.v_break, Vz.Q.v_cont, Vz.Q.v_expr, Vz.Q.v_ret, Vz.Q.v_retN, Vz.Q.v_sif, Vz.Q.v_set, Vz.Q.v_setLc, Vz.Q.v_setLf, Vz.Q.v_aug, Vz.Q.parO_, Vz.Q.v_par, Vz.Q.nxO_, Vz.Q.v_asg, Vz.Q.v_oname, Vz.Q.v_onnil, Vz.Q.v_oncons, Vz.Q.v_otup, Vz.Q.v_osub, Vz.Q.v_fz, Vz.Q.v_meth, Vz.Q.v_meth0, Vz.Q.someR_, Vz.Q.v_index, Vz.Q.v_isi, Vz.Q.v_neg, Vz.Q.v_rev, Vz.Q.v_range, Vz.Q.v_sl, Vz.Q.v_no, Vz.Q.v_yesI, Vz.Q.v_dictT, Vz.Q.v_iseq, Vz.Q.v_iargs, Vz.Q.v_ifr, Vz.Q.rd_dat, Vz.Q.rd_loc, Vz.Q.rdC_lst, Vz.Q.rdC_frz, Vz.Q.rdC_dT, Vz.Q.rdC_dK, Vz.Q.rd2_, Vz.Q.rds_nil, Vz.Q.rds_cons, Vz.Q.dats_nil, Vz.Q.dats_cons, Vz.Q.small_1, Vz.Q.small_2, Vz.Q.small_3, Vz.Q.small_0, Vz.Q.small_, Vz.Q.one_, Vz.Q.two_, Vz.Q.frd_dat, Vz.Q.frd_loc, Vz.Q.frdC_frz, Vz.Q.frds_nil, Vz.Q.frds_cons, Vz.Q.LstW_, Vz.Q.lstB_, Vz.Q.lstC_, Vz.Q.lstO_, Vz.Q.v_append, Vz.Q.v_insert, Vz.Q.v_extend, Vz.Q.v_popAt, Vz.Q.asInt_, Vz.Q.asLs_, Vz.Q.v_stB, Vz.Q.lim_app, Vz.Q.lim_le, Vz.Q.lim_lt, Vz.Q.addL_, Vz.Q.addD_ll, Vz.Q.addD_tt, Option.bind_some, Option.map_some, addD_ii, subI_ii, ltI_ii, leI_ii, gtI_ii, geI_ii, eqD_ii, isN_non, isN_int, isN_str, List.getElem?_cons_zero, List.getElem?_cons_succ, List.set_cons_zero, List.set_cons_succ, List.length_cons, List.length_nil, List.length_append, Nat.zero_add, Nat.add_zero, Nat.reduceAdd, Nat.reduceSub, Nat.reduceEqDiff, at_app0, at_appk, set_app0, set_appk, List.append_assoc, List.cons_append, List.nil_append, List.append_nil, List.map_cons, List.map_nil, List.replicate, Vz.Q.fn_dat, Vz.Q.fn_nx, Vz.Q.fn_exc, Vz.Q.fn_exn, Vz.Q.fn_loc, Vz.Q.retC_lst, Vz.Q.retC_frz, Vz.Q.retC_dT, Vz.Q.retC_dK, Vz.Q.bodyF_, Vz.Q.bodyO_, Vz.Q.cutR_nil, Vz.Q.cutR_cons, Vz.Q.cutW_dat, Vz.Q.cutW_none, Vz.Q.cutW_exn, Vz.Q.cutW_loc, Vz.Q.cutW_locN, wipeR, List.take_succ_cons, List.take_length, List.take_left, take_appk, List.take_zero, List.take_nil, Vz.Q.v_yes, Vz.Q.v_lcB, Vz.Q.lcO_, Vz.Q.v_cname, Vz.Q.v_ctup, Vz.Q.v_cnnil, Vz.Q.v_cncons, Vz.Q.bb_tf, Vz.Q.bb_ft, Vz.Q.bb_tt, Vz.Q.bb_ff, Vz.Q.bn_tf, Vz.Q.bn_ft, Vz.Q.bn_tt, Vz.Q.bn_ff, eqD_bb, neD_bb, Bool.not_true, Bool.not_false, Bool.and_true, Bool.true_and, Bool.and_self, decide_true, decide_false, eq_self, $hs,*])
local macro_rules
 | `(tactic| simp_arith! [$hs,*]) => `(tactic| simp -implicitDefEqProofs -dsimp (disch:=first | assumption | omega | (simp only [List.length_map, List.length_append, List.length_cons, List.length_nil, List.length_range, List.length_take, List.length_drop, List.length_replicate, List.length_reverse, List.length_zipIdx]; omega)) only [Vz.Q.ifB_t, Vz.Q.ifB_f, Vz.Q.bind_ok, Vz.Q.bind_exc, Vz.Q.then_ok, Vz.Q.then_exc, Vz.Q.andThen_nx, Vz.Q.andThen_rt, Vz.Q.andThen_exc, Vz.Q.andThen_bk, Vz.Q.andThen_ct, Vz.Q.lift_some, Vz.Q.ofo_some, Vz.Q.get_ok, Vz.Q.noX_ok, Vz.Q.ifO_t, Vz.Q.varO_, Vz.Q.v_var, Vz.Q.v_c, Vz.Q.v_bin, Vz.Q.v_b, Vz.Q.asB_, Vz.Q.v_and, Vz.Q.v_or, Vz.Q.v_not, Vz.Q.v_v, Vz.Q.v_andV, Vz.Q.v_orV, Vz.Q.v_notV, Vz.Q.v_if, Vz.Q.v_chain, Vz.Q.v_anil, Vz.Q.v_acons, Vz.Q.v_tup, Vz.Q.v_tupK, Vz.Q.v_frz, Vz.Q.v_cell, Vz.Q.v_disp, Vz.Q.lsO_, Vz.Q.v_cat, Vz.Q.v_call, Vz.Q.v_lcall, Vz.Q.v_app, Vz.Q.v_appK, Vz.Q.v_nil, Vz.Q.v_pass, Vz.Q.v_seq, Vz.Q.v_break, Vz.Q.v_cont, Vz.Q.v_expr, Vz.Q.v_ret, Vz.Q.v_retN, Vz.Q.v_sif, Vz.Q.v_set, Vz.Q.v_setLc, Vz.Q.v_setLf, Vz.Q.v_aug, Vz.Q.parO_, Vz.Q.v_par, Vz.Q.nxO_, Vz.Q.v_asg, Vz.Q.v_oname, Vz.Q.v_onnil, Vz.Q.v_oncons, Vz.Q.v_otup, Vz.Q.v_osub, Vz.Q.v_fz, Vz.Q.v_meth, Vz.Q.v_meth0, Vz.Q.someR_, Vz.Q.v_index, Vz.Q.v_isi, Vz.Q.v_neg, Vz.Q.v_rev, Vz.Q.v_range, Vz.Q.v_sl, Vz.Q.v_no, Vz.Q.v_yesI, Vz.Q.v_dictT, Vz.Q.v_iseq, Vz.Q.v_iargs, Vz.Q.v_ifr, Vz.Q.rd_dat, Vz.Q.rd_loc, Vz.Q.rdC_lst, Vz.Q.rdC_frz, Vz.Q.rdC_dT, Vz.Q.rdC_dK, Vz.Q.rd2_, Vz.Q.rds_nil, Vz.Q.rds_cons, Vz.Q.dats_nil, Vz.Q.dats_cons, Vz.Q.small_1, Vz.Q.small_2, Vz.Q.small_3, Vz.Q.small_0, Vz.Q.small_, Vz.Q.one_, Vz.Q.two_, Vz.Q.frd_dat, Vz.Q.frd_loc, Vz.Q.frdC_frz, Vz.Q.frds_nil, Vz.Q.frds_cons, Vz.Q.LstW_, Vz.Q.lstB_, Vz.Q.lstC_, Vz.Q.lstO_, Vz.Q.v_append, Vz.Q.v_insert, Vz.Q.v_extend, Vz.Q.v_popAt, Vz.Q.asInt_, Vz.Q.asLs_, Vz.Q.v_stB, Vz.Q.lim_app, Vz.Q.lim_le, Vz.Q.lim_lt, Vz.Q.addL_, Vz.Q.addD_ll, Vz.Q.addD_tt, Option.bind_some, Option.map_some, addD_ii, subI_ii, ltI_ii, leI_ii, gtI_ii, geI_ii, eqD_ii, isN_non, isN_int, isN_str, List.getElem?_cons_zero, List.getElem?_cons_succ, List.set_cons_zero, List.set_cons_succ, List.length_cons, List.length_nil, List.length_append, Nat.zero_add, Nat.add_zero, Nat.reduceAdd, Nat.reduceSub, Nat.reduceEqDiff, at_app0, at_appk, set_app0, set_appk, List.append_assoc, List.cons_append, List.nil_append, List.append_nil, List.map_cons, List.map_nil, List.replicate, Vz.Q.fn_dat, Vz.Q.fn_nx, Vz.Q.fn_exc, Vz.Q.fn_exn, Vz.Q.fn_loc, Vz.Q.retC_lst, Vz.Q.retC_frz, Vz.Q.retC_dT, Vz.Q.retC_dK, Vz.Q.bodyF_, Vz.Q.bodyO_, Vz.Q.cutR_nil, Vz.Q.cutR_cons, Vz.Q.cutW_dat, Vz.Q.cutW_none, Vz.Q.cutW_exn, Vz.Q.cutW_loc, Vz.Q.cutW_locN, wipeR, List.take_succ_cons, List.take_length, List.take_left, take_appk, List.take_zero, List.take_nil, Vz.Q.v_yes, Vz.Q.v_lcB, Vz.Q.lcO_, Vz.Q.v_cname, Vz.Q.v_ctup, Vz.Q.v_cnnil, Vz.Q.v_cncons, Vz.Q.bb_tf, Vz.Q.bb_ft, Vz.Q.bb_tt, Vz.Q.bb_ff, Vz.Q.bn_tf, Vz.Q.bn_ft, Vz.Q.bn_tt, Vz.Q.bn_ff, eqD_bb, neD_bb, Bool.not_true, Bool.not_false, Bool.and_true, Bool.true_and, Bool.and_self, decide_true, decide_false, eq_self, v_izd, Vz.Q.par3O_, Vz.Q.v_par3, Vz.Q.v_try, Vz.Q.try_exc, Vz.Q.try_nx, Vz.Q.try_rt, Vz.Q.drop_nx, Vz.Q.drop_rt, Vz.Q.v_raise1, Vz.Q.r1O_, Vz.Q.v_raise0, Vz.Q.v_isNo, Vz.Q.v_isNoN, Vz.Q.isNo_non, Vz.Q.isNo_exn, Vz.Q.v_isX, Vz.Q.isXW_, Vz.Q.v_xf, Vz.Q.xfW_, Vz.Q.v_oseq_t, Vz.Q.v_oseq_l, Vz.Q.enumD_l, Vz.Q.enumD_t, Vz.Q.nums_map, Vz.Q.listD_l, Vz.Q.listD_t, Vz.Q.tupleD_l, Vz.Q.tupleD_t, Vz.Q.lenD_l, Vz.Q.lenD_t, Vz.Q.cutD_l, Vz.Q.cutD_n, Vz.Q.revD_l, Vz.Q.fz_dat, Vz.Q.fz_loc, Vz.Q.fzC_lst, Vz.Q.fzC_frz, Vz.Q.isNN_non, Vz.Q.isNN_int, Vz.Q.isNN_str, Vz.Q.inD_l, Vz.Q.inD_t, Vz.Q.sqB_l, Vz.Q.sqB_t, Bool.false_xor, Bool.true_xor, asI, Vz.Q.walk_dl, Vz.Q.walk_dt, List.length_map, List.map_append, $hs,*])
theorem v_izd {f : FA} {ρ : Rho} {S : Sto} : iZd f ρ S = bindT (f ρ S) (fun ws S1 => R.lift (izW S1 ws) S1) .mk:=rfl
end Vz.Q
namespace Vz
open PySem PySem.Spec PyProof.Rows L2
def b_is_wrong : FS:=(sRet (fAndV (fBin isNN (fBin ixD (fVar 0) (fVar 1)) (fC .none)) (fBin geI (fBin ixD (fVar 0) (fVar 1)) (fVar 1))))
def F_is_wrong : List W → Sto → R W:=runF 2 false b_is_wrong
def B_do_cross (c_is_wrong : List W → Sto → R W) : FS:=(sSeq (sIf (fOr (fB (fBin isN (fBin ixD (fVar 0) (fVar 1)) (fC .none))) (fOr (fB (fBin isN (fBin ixD (fVar 0) (fVar 2)) (fC .none))) (fOr (fB (fApp 2 c_is_wrong (aCons (fVar 0) (aCons (fVar 1) aNil)))) (fB (fApp 2 c_is_wrong (aCons (fVar 0) (aCons (fVar 2) aNil))))))) (sRet (fC (.bool false))) sNil) (sRet (fAndV (fChain ltI ltI (fBin ixD (fVar 0) (fVar 1)) (fVar 2) (fVar 1)) (fBin ltI (fBin ixD (fVar 0) (fVar 2)) (fBin ixD (fVar 0) (fVar 1))))))
def b_do_cross : FS:=B_do_cross F_is_wrong
def F_do_cross : List W → Sto → R W:=runF 3 false b_do_cross
def b_is_integer : FS:=(sRet (fAndV (fIsi gInt (fVar 0)) (fNotV (fIsi gBool (fVar 0)))))
def F_is_integer : List W → Sto → R W:=runF 1 false b_is_integer
def B_shows_wrong (c_is_integer c_is_wrong c_marks_of : List W → Sto → R W) : FS:=(sRet (fAndV (fApp 1 c_is_integer (aCons (fVar 2) aNil)) (fAndV (fBin (inD false) (fVar 2) (fVar 0)) (fApp 2 c_is_wrong (aCons (fApp 2 c_marks_of (aCons (fVar 0) (aCons (fVar 1) aNil))) (aCons (fIndex (fVar 0) (aCons (fVar 2) aNil)) aNil))))))
def b_shows_wrong : FS:=B_shows_wrong F_is_integer F_is_wrong F_marks_of
def F_shows_wrong : List W → Sto → R W:=runF 3 false b_shows_wrong
def B_shows_crossing (c_do_cross c_marks_of c_is_integer : List W → Sto → R W) : FS:=(sSeq (sIf (fOr (fNot (fB (fIsi gTup (fVar 2)))) (fOr (fB (fBin neD (fCall lenD (aCons (fVar 2) aNil)) (fC (.int 2)))) (fNot (fB (fCall allD (aCons (fFrz (lComp (iSeq (fVar 2)) [3] (cName 3) fYes (fApp 1 c_is_integer (aCons (fVar 3) aNil)))) aNil)))))) (sRet (fC (.bool false))) sNil) (sSeq (sIf (fNot (fB (fCall allD (aCons (fFrz (lComp (iSeq (fVar 2)) [3] (cName 3) fYes (fBin (inD false) (fVar 3) (fVar 0)))) aNil)))) (sRet (fC (.bool false))) sNil) (sRet (fApp 3 c_do_cross (aCons (fApp 2 c_marks_of (aCons (fVar 0) (aCons (fVar 1) aNil))) (aCons (fIndex (fVar 0) (aCons (fBin ixD (fVar 2) (fC (.int 0))) aNil)) (aCons (fIndex (fVar 0) (aCons (fBin ixD (fVar 2) (fC (.int 1))) aNil)) aNil)))))))
def b_shows_crossing : FS:=B_shows_crossing F_do_cross F_marks_of F_is_integer
def F_shows_crossing : List W → Sto → R W:=runF 4 false b_shows_crossing
def B_is_order (c_is_integer : List W → Sto → R W) : FS:=(sSeq (sIf (fOr (fNot (fB (fIsi gTup (fVar 1)))) (fOr (fB (fBin neD (fCall lenD (aCons (fVar 1) aNil)) (fCall lenD (aCons (fVar 0) aNil)))) (fNot (fB (fCall allD (aCons (fFrz (lComp (iSeq (fVar 1)) [2] (cName 2) fYes (fApp 1 c_is_integer (aCons (fVar 2) aNil)))) aNil)))))) (sRet (fC (.bool false))) sNil) (sRet (fBin eqD (fFrz (lCall sortedD (aCons (fVar 1) aNil))) (fFrz (lCall sortedD (aCons (fVar 0) aNil))))))
def b_is_order : FS:=B_is_order F_is_integer
def F_is_order : List W → Sto → R W:=runF 3 false b_is_order
def b_anchors_of : FS:=(sSeq (sSet 2 (fCell (lDisp aNil))) (sSeq (sFor (iFr (one enumD) (aCons (fVar 0) aNil)) (oTup 2 (onCons (oName 3) (onCons (oName 4) onNil))) (sSeq (sSet 5 (fIndex (fVar 1) (aCons (fVar 4) aNil))) (sSeq (sSetL 6 false (lComp (iSeq (fSl (fVar 0) fNo (fYesI (fVar 3)))) [7] (cName 7) (fB (fBin ltI (fIndex (fVar 1) (aCons (fVar 7) aNil)) (fVar 5))) (fVar 7))) (sExpr (fMeth mAppend (fVar 2) (aCons (fIf (fB (fBin neD (fVar 6) (fFrz (lDisp aNil)))) (fBin ixD (fVar 6) (fNeg (fC (.int 1)))) (fC .none)) aNil)))))) (sRet (fCall tupleD (aCons (fVar 2) aNil)))))
def F_anchors_of : List W → Sto → R W:=runF 8 false b_anchors_of
def B_shows_order (c_is_order c_marks_of c_anchors_of : List W → Sto → R W) : FS:=(sSeq (sIf (fNot (fB (fApp 2 c_is_order (aCons (fVar 0) (aCons (fVar 2) aNil))))) (sRet (fC (.bool false))) sNil) (sSeq (sPar 3 4 (aCons (fApp 2 c_marks_of (aCons (fVar 0) (aCons (fVar 1) aNil))) (aCons (fApp 2 c_marks_of (aCons (fVar 0) (aCons (fApp 2 c_anchors_of (aCons (fVar 0) (aCons (fVar 2) aNil))) aNil))) aNil))) (sRet (fCall allD (aCons (fFrz (lComp (iFr (two zipD) (aCons (fVar 3) (aCons (fVar 4) aNil))) [5, 6] (cTup 2 (cnCons 5 (cnCons 6 cnNil))) fYes (fOrV (fBin isN (fVar 5) (fC .none)) (fBin eqD (fVar 5) (fVar 6))))) aNil)))))
def b_shows_order : FS:=B_shows_order F_is_order F_marks_of F_anchors_of
def F_shows_order : List W → Sto → R W:=runF 7 false b_shows_order
end Vz
namespace Vz
open PySem PySem.Spec PyProof.Rows L2
end Vz
namespace Vz
open PySem PySem.Spec PyProof.Rows L2
def B_present_after (c_fits : List W → Sto → R W) : FS:=(sSeq (sSet 3 (fCell (lDisp aNil))) (sSeq (sFor (iSeq (fVar 2)) (oName 4) (sSeq (sSet 5 (fIndex (fVar 0) (aCons (fVar 4) aNil))) (sSeq (sIf (fNot (fB (fApp 3 c_fits (aCons (fVar 1) (aCons (fVar 3) (aCons (fVar 5) aNil)))))) (sRet (fC .none)) sNil) (sExpr (fMeth mAppend (fVar 3) (aCons (fVar 5) aNil)))))) (sRet (fVar 3))))
def b_present_after : FS:=B_present_after F_fits
def F_present_after : List W → Sto → R W:=runF 6 false b_present_after
def B_next_items (c_marks_of c_present_after c_sorted_next c_gap_table : List W → Sto → R W) : FS:=(sSeq (sSet 3 (fApp 2 c_marks_of (aCons (fVar 0) (aCons (fVar 1) aNil)))) (sSeq (sSet 4 (fApp 3 c_present_after (aCons (fVar 0) (aCons (fVar 3) (aCons (fVar 2) aNil))))) (sSeq (sIf (fB (fBin isN (fVar 4) (fC .none))) (sRet (fFrz (lDisp aNil))) sNil) (sRet (fFrz (lComp (iSeq (fApp 4 c_sorted_next (aCons (fVar 0) (aCons (fVar 3) (aCons (fApp 1 c_gap_table (aCons (fVar 3) aNil)) (aCons (fVar 4) aNil)))))) [5, 6, 7] (cTup 3 (cnCons 5 (cnCons 6 (cnCons 7 cnNil)))) fYes (fVar 5)))))))
def b_next_items : FS:=B_next_items F_marks_of F_present_after F_sorted_next F_gap_table
def F_next_items : List W → Sto → R W:=runF 8 false b_next_items
def b_with_anchor : FS:=(sSeq (sIf (fB (fBin (inD true) (fVar 2) (fVar 0))) (sRaise1 "NoItem" "item" (aCons (fVar 2) aNil)) sNil) (sSeq (sSet 4 (fIndex (fVar 0) (aCons (fVar 2) aNil))) (sRet (fBin addD (fBin addD (fCall tupleD (aCons (fSl (fVar 1) fNo (fYesI (fVar 4))) aNil)) (fTup (aCons (fVar 3) aNil))) (fCall tupleD (aCons (fSl (fVar 1) (fYesI (fBin addD (fVar 4) (fC (.int 1)))) fNo) aNil))))))
def F_with_anchor : List W → Sto → R W:=runF 5 false b_with_anchor
def B_count_after (c_marks_of c_present_after c_count_rest c_gap_table : List W → Sto → R W) : FS:=(sSeq (sSet 3 (fApp 2 c_marks_of (aCons (fVar 0) (aCons (fVar 1) aNil)))) (sSeq (sSet 4 (fApp 3 c_present_after (aCons (fVar 0) (aCons (fVar 3) (aCons (fVar 2) aNil))))) (sRet (fIf (fB (fBin isN (fVar 4) (fC .none))) (fC (.int 0)) (fApp 3 c_count_rest (aCons (fApp 1 c_gap_table (aCons (fVar 3) aNil)) (aCons (fCall lenD (aCons (fVar 0) aNil)) (aCons (fVar 4) aNil))))))))
def b_count_after : FS:=B_count_after F_marks_of F_present_after F_count_rest F_gap_table
def F_count_after : List W → Sto → R W:=runF 5 false b_count_after
end Vz
namespace Vz
open PySem PySem.Spec PyProof.Rows L2
end Vz
namespace Vz
open PySem PySem.Spec PyProof.Rows L2
end Vz
namespace Vz
open PySem PySem.Spec PyProof.Rows L2
def b_put : FS:=(sSeq (sIf (fB (fBin (inD false) (fVar 2) (fVar 0))) (sRaise1 "Duplicate" "item" (aCons (fVar 2) aNil)) sNil) (sSeq (sIf (fAnd (fB (fBin isNN (fVar 3) (fC .none))) (fB (fBin (inD true) (fVar 3) (fVar 0)))) (sRaise1 "Missing" "anchor" (aCons (fVar 3) aNil)) sNil) (sSeq (sSet 4 (fIf (fB (fBin isN (fVar 3) (fC .none))) (fC (.int 0)) (fBin addD (fIndex (fVar 0) (aCons (fVar 3) aNil)) (fC (.int 1))))) (sRet (fTup (aCons (fBin addD (fBin addD (fSl (fVar 0) fNo (fYesI (fVar 4))) (fTup (aCons (fVar 2) aNil))) (fSl (fVar 0) (fYesI (fVar 4)) fNo)) (aCons (fBin addD (fBin addD (fSl (fVar 1) fNo (fYesI (fVar 4))) (fTup (aCons (fVar 3) aNil))) (fSl (fVar 1) (fYesI (fVar 4)) fNo)) aNil)))))))
def F_put : List W → Sto → R W:=runF 5 false b_put
end Vz
namespace Vz
open PySem PySem.Spec PyProof.Rows L2
section
variable {T : Tb} {X : Cx} {Wx : WX} {a b e : Expr} {fa fb : FE} {ga : FA} {pos p : Pos}
end
end Vz
namespace Vz
open PySem PySem.Spec PyProof.Rows L2
section
variable {prog : Program} {w : World} {A : Around} {E : Value → Shared → Prop} {s : Shared}
end
section
variable {X : Cx} {T : Tb}
end
end Vz
namespace Vz
open PySem PySem.Spec PyProof.Rows L2
section
variable {T : Tb} {X : Cx} {Wx : WX} {k : Nat} {ga : FA} {e : Expr} {es : List Expr} {p pos : Pos}
end
end Vz
namespace Vz
open PySem PySem.Spec PyProof.Rows L2
end Vz
namespace Vz
open PySem PySem.Spec PyProof.Rows L2
section
variable {T : Tb} {X : Cx} {Wx : WX} {a b e : Expr} {fa fb fe : FE} {pos : Pos} {es : List Expr} {ga : FA}
end
end Vz
namespace Vz
open PySem PySem.Spec PyProof.Rows L2
section
variable {X : Cx}
end
section
variable {T : Tb} {X : Cx} {Wx : WX} {e : Expr} {pos p : Pos} {ga : FA}
end
end Vz
namespace Vz
open PySem PySem.Spec PyProof.Rows L2
section
variable {T : Tb} {X : Cx} {Wx : WX} {ga : FA} {e : Expr} {p pos : Pos}
end
end Vz
namespace Vz
open PySem PySem.Spec PyProof.Rows L2
section
variable {X : Cx}
end
section
variable {K : PySem.W.Frag} {F H : Hp}
end
section
variable {T : Tb} {X : Cx} {Wx : WX} {ga : FA} {e : Expr} {p pos : Pos}
end
end Vz
namespace Vz
open PySem PySem.Spec PyProof.Rows L2
section
variable {X : Cx} {Q : Bool → Shared → Prop} {E : Value → Shared → Prop}
end
section
variable {X : Cx} {n y : Str} {cy : Value} {i : Nat} {body suite : List Stmt} {b₀ : Stmt} {pos pos' tpos : Pos} {tb : WX → TS} {ts : Addr → TS} {Wout : WX}
end
section
variable {T : Tb} {X : Cx} {Wx : WX} {L : List Str} {B : List String} {tb : Str → String → Bool} {fl : List Str}
end
end Vz
namespace Vz
open PySem PySem.Spec PyProof.Rows L2
def B_grown (c_put : List W → Sto → R W) : FS:=(sSeq (sAsg (fApp 4 c_put (aCons (fBin ixD (fVar 0) (fC (.int 0))) (aCons (fBin ixD (fVar 0) (fC (.int 1))) (aCons (fVar 1) (aCons (fVar 2) aNil))))) (oTup 2 (onCons (oName 3) (onCons (oName 4) onNil)))) (sSeq (sIf (fB (fBin gtI (fCall lenD (aCons (fVar 3) aNil)) (fC (.int 12)))) (sRaise1 "Full" "many" (aCons (fC (.int 12)) aNil)) sNil) (sRet (fTup (aCons (fVar 3) (aCons (fVar 4) (aCons (fBin addD (fBin ixD (fVar 0) (fC (.int 2))) (fTup (aCons (fVar 1) aNil))) aNil)))))))
def b_grown : FS:=B_grown F_put
def F_grown : List W → Sto → R W:=runF 5 false b_grown
def B_Editor_insert_one (c_grown : List W → Sto → R W) : FS:=(sSeq (sExpr (fMeth mAppendF (fFld "Editor" "own_journal" (fVar 0)) (aCons (fTup (aCons (fC (.str "begin")) (aCons (fC (.str "insert_one")) aNil))) aNil))) (sFin (rSeq (sSet 3 (fApp 3 c_grown (aCons (fBin ixD (fFld "Editor" "own_states" (fVar 0)) (fNeg (fC (.int 1)))) (aCons (fVar 1) (aCons (fVar 2) aNil))))) (rSeq (sExpr (fMeth mAppendF (fFld "Editor" "own_states" (fVar 0)) (aCons (fVar 3) aNil))) (rRet (fIndex (fBin ixD (fVar 3) (fC (.int 0))) (aCons (fVar 1) aNil))))) (sExpr (fMeth mAppendF (fFld "Editor" "own_journal" (fVar 0)) (aCons (fTup (aCons (fC (.str "end")) (aCons (fC (.str "insert_one")) aNil))) aNil)))))
def b_Editor_insert_one : FS:=B_Editor_insert_one F_grown
def F_Editor_insert_one : List W → Sto → R W:=runF 4 false b_Editor_insert_one
def B_Editor_insert_all (c_grown : List W → Sto → R W) : FS:=(sSeq (sExpr (fMeth mAppendF (fFld "Editor" "own_journal" (fVar 0)) (aCons (fTup (aCons (fC (.str "begin")) (aCons (fC (.str "insert_all")) aNil))) aNil))) (sFin (rSeq (sPar 2 3 (aCons (fBin ixD (fFld "Editor" "own_states" (fVar 0)) (fNeg (fC (.int 1)))) (aCons (fCell (lDisp aNil)) aNil))) (rSeq (sFor (iSeq (fVar 1)) (oSeq 2 (onCons (oName 4) (onCons (oName 5) onNil))) (sSeq (sSet 2 (fApp 3 c_grown (aCons (fVar 2) (aCons (fVar 4) (aCons (fVar 5) aNil))))) (sExpr (fMeth mAppend (fVar 3) (aCons (fIndex (fBin ixD (fVar 2) (fC (.int 0))) (aCons (fVar 4) aNil)) aNil))))) (rSeq (sExpr (fMeth mAppendF (fFld "Editor" "own_states" (fVar 0)) (aCons (fVar 2) aNil))) (rRet (fVar 3))))) (sExpr (fMeth mAppendF (fFld "Editor" "own_journal" (fVar 0)) (aCons (fTup (aCons (fC (.str "end")) (aCons (fC (.str "insert_all")) aNil))) aNil)))))
def b_Editor_insert_all : FS:=B_Editor_insert_all F_grown
def F_Editor_insert_all : List W → Sto → R W:=runF 6 false b_Editor_insert_all
def b_Editor_listed : FS:=(sRet (fBin ixD (fBin ixD (fFld "Editor" "own_states" (fVar 0)) (fNeg (fC (.int 1)))) (fC (.int 0))))
def F_Editor_listed : List W → Sto → R W:=runF 1 false b_Editor_listed
def b_Editor_anchors : FS:=(sRet (fBin ixD (fBin ixD (fFld "Editor" "own_states" (fVar 0)) (fNeg (fC (.int 1)))) (fC (.int 1))))
def F_Editor_anchors : List W → Sto → R W:=runF 1 false b_Editor_anchors
def B_Editor_count (c_count_orders c_Editor_listed c_Editor_anchors : List W → Sto → R W) : FS:=(sRet (fApp 2 c_count_orders (aCons (fMet "Editor" "listed" 0 [] c_Editor_listed (fVar 0) aNil) (aCons (fMet "Editor" "anchors" 0 [] c_Editor_anchors (fVar 0) aNil) aNil))))
def b_Editor_count : FS:=B_Editor_count F_count_orders F_Editor_listed F_Editor_anchors
def F_Editor_count : List W → Sto → R W:=runF 1 false b_Editor_count
def b_Editor_order : FS:=(sRet (fBin ixD (fBin ixD (fFld "Editor" "own_states" (fVar 0)) (fNeg (fC (.int 1)))) (fC (.int 2))))
def F_Editor_order : List W → Sto → R W:=runF 1 false b_Editor_order
def B_Editor_forget (c_with_anchor c_Editor_count c_Editor_listed c_Editor_anchors c_Editor_order : List W → Sto → R W) : FS:=(sSeq (sExpr (fMeth mAppendF (fFld "Editor" "own_journal" (fVar 0)) (aCons (fTup (aCons (fC (.str "begin")) (aCons (fC (.str "forget")) aNil))) aNil))) (sFin (rSeq (sSet 2 (fApp 4 c_with_anchor (aCons (fMet "Editor" "listed" 0 [] c_Editor_listed (fVar 0) aNil) (aCons (fMet "Editor" "anchors" 0 [] c_Editor_anchors (fVar 0) aNil) (aCons (fVar 1) (aCons (fC (.str "?")) aNil)))))) (rSeq (sExpr (fMeth mAppendF (fFld "Editor" "own_states" (fVar 0)) (aCons (fTup (aCons (fMet "Editor" "listed" 0 [] c_Editor_listed (fVar 0) aNil) (aCons (fVar 2) (aCons (fMet "Editor" "order" 0 [] c_Editor_order (fVar 0) aNil) aNil)))) aNil))) (rRet (fMet "Editor" "count" 0 [] c_Editor_count (fVar 0) aNil)))) (sExpr (fMeth mAppendF (fFld "Editor" "own_journal" (fVar 0)) (aCons (fTup (aCons (fC (.str "end")) (aCons (fC (.str "forget")) aNil))) aNil)))))
def b_Editor_forget : FS:=B_Editor_forget F_with_anchor F_Editor_count F_Editor_listed F_Editor_anchors F_Editor_order
def F_Editor_forget : List W → Sto → R W:=runF 3 false b_Editor_forget
def b_Editor_operations : FS:=(sRet (fBin subI (fCall lenD (aCons (fFld "Editor" "own_states" (fVar 0)) aNil)) (fC (.int 1))))
def F_Editor_operations : List W → Sto → R W:=runF 1 false b_Editor_operations
end Vz
namespace Vz
open PySem PySem.Spec PyProof.Rows L2
section
variable {X : Cx} {CX : CXT} {k np : Nat} {f C : Addr} {fd : FuncData} {ps ks : List Str} {sp : Sp} {E : L2.St → XK} {m : Str} {pos apos : Pos} {e o : Expr} {es : List Expr} {t tk : TA} {ta : TE} {kws : List Keyword} {g : List Value → List Value} {gV : List V → List V}
def tMetK (C : Addr) (m : Str) (sp : Sp) (np : Nat) (gV : List V → List V) (E : L2.St → XK) (ta : TE) (t tk : TA) : TE:=fun σ H Q => ta σ H fun x H1 => ∃ a dx fs, x = .ref a ∧ H1 a = some (.ins C dx fs) ∧ fs.lookup m = none ∧ t σ H1 fun vs H2 => tk σ H2 fun ws H3 => vs.length = np ∧ sp (x :: gV (vs ++ ws)) H3 Q (E σ)
theorem pe_metK0 {pl : Sem Bool} (he : PE X o ta) (c : Cls X.K C) (hm : Meth X.K C m f) (F : FnK X.prog X.w X.K X.mg X.base CX k f fd ps sp) (hr : Room k X.A) (hf : Free X.A)
  (hb : ∀ (s : Shared) (self : Value) (as : List Value), X.K.In s.heap → (self :: g as).length = ps.length → BindsTo s fd ⟨[self], ks.zip as⟩ (ps.zip (self :: g as))) (hrel : ∀ {vs : List V} {us : List Value}, Vals vs us → Vals (gV vs) (g us)) (hx : ∀ σ, PassesAt CX X σ (E σ)) (hkw : PK X kws tk)
  (hall : (backToKw pos (keywordEach kws X.env)).all (·.1.isSome) = true:=by rfl) (hks : (backToKw pos (keywordEach kws X.env)).filterMap (·.1) = ks:=by rfl)
  (hpl : ((backTo pos (starEach [] X.env)).any (·.1) || (backToKw pos (keywordEach kws X.env)).any (·.1.isNone)) = false:=by rfl)
  (ht : eval (.Call (.Attribute o m apos) [] kws pos) X.env = (do
   let ov ← eval o X.env
   standAt apos.atName
   let (f, first) ← holding [ov] (getMethod ov m pl)
   callWith pos f first (backTo pos (starEach [] X.env)) (backToKw pos (keywordEach kws X.env))):=by rfl) :
  PE X (.Call (.Attribute o m apos) [] kws pos) (tMetK C m sp 0 gV E ta tNil tk):=by
 refine ⟨fun pins s σ H Q I h => ?_⟩
 refine PySem.W.methodCall_KW (pl:=pl) (thn (he.run pins s σ H _ I h) fun u s1 ⟨x, H1, I1, rx, a, dx, fs, ex, ea, l, q⟩ => ?_) ht
 subst ex
 obtain rfl : u = Value.ref a:=rx
 refine getmeth_ok I1 ea c hm l ?_
 refine PySem.W.callWith_KW0 (first:=[.ref a]) (h₀:=X.base) I.ok.mod.kin hm.kp hall (thn (hkw.run pos pins s1 σ H1 _ I1 q) ?_) hpl
 rintro as s3 ⟨ws, H3, I3, rk, _, q3⟩
 refine ⟨I3.kIn, ?_⟩
 rw [hks]
 exact goK (us:=[.ref a]) (as:=as) (bs:=.ref a :: g as) F hr hf (hx σ) I3 (fun hl => hb s3 (.ref a) as I3.kIn hl) (.cons (show RelV (.ref a) (.ref a) from rfl) (hrel rk)) q3
end
def KwB (K : PySem.W.Frag) (fd : FuncData) (ps ks : List Str) (np : Nat) (ix : List Nat) : Prop :=
 ∀ (s : Shared) (self : Value) (us as : List Value), K.In s.heap → us.length = np → us.length + as.length = ix.length → BindsTo s fd ⟨self :: us, ks.zip as⟩ (ps.zip (self :: ix.map fun i => (us ++ as).getD i .none))
theorem kwb_plain {K : PySem.W.Frag} {x qual : Str} {params : Arguments} {body : List Stmt} {scope : Scope} {fa : Addr} {ps ks : List Str} {np : Nat} {ix : List Nat} (hF : ∃ fd, FunD K x qual params body scope [] [] fa fd)
  (h : ∀ (kV doc pm : Value) (an : Option Addr) (cdv ct self : Value) (us as : List Value), us.length = np → us.length + as.length = ix.length → bindArgs (PySem.W.fnOf x qual params body scope .none kV doc pm an cdv ct) ⟨self :: us, ks.zip as⟩ = pure (ps.zip (self :: ix.map fun i => (us ++ as).getD i .none))) :
  ∃ fd, KwB K fd ps ks np ix ∧ ∃ oc od osl, K.lookup fa = some ⟨oc, od, .func fd, osl⟩:=by
 obtain ⟨fd, F⟩:=hF
 obtain ⟨oc, od, dV, kV, doc, pm, an, cdv, ct, osl, rfl, hl, _, dv, _⟩:=F.ex
 have hd : dV = .none:=by
  rcases dv with ⟨_, h⟩ | ⟨h, _⟩
  ·exact h
  ·exact (h rfl).elim
 subst hd
 exact ⟨_, fun s self us as _ h1 h2 => .of_eq (h kV doc pm an cdv ct self us as h1 h2), oc, od, osl, hl⟩
theorem kwb_dfl {K : PySem.W.Frag} {x qual : Str} {params : Arguments} {body : List Stmt} {scope : Scope} {dvs : List V} {fa : Addr} {ps ks : List Str} {np : Nat} {ix : List Nat} (hF : ∃ fd, FunD K x qual params body scope dvs [] fa fd) (hd : dvs ≠ [])
  (h : ∀ (T : Addr) (kV doc pm : Value) (an : Option Addr) (cdv ct self : Value) (us as its : List Value), us.length = np → us.length + as.length = ix.length → its.length = dvs.length → ∃ k, bindArgs (PySem.W.fnOf x qual params body scope (.ref T) kV doc pm an cdv ct) ⟨self :: us, ks.zip as⟩ = seqItems? (.ref T) >>= k ∧ k (some its.toArray) = pure (ps.zip (self :: ix.map fun i => (us ++ as).getD i .none))) :
  ∃ fd, KwB K fd ps ks np ix ∧ ∃ oc od osl, K.lookup fa = some ⟨oc, od, .func fd, osl⟩:=by
 obtain ⟨fd, F⟩:=hF
 obtain ⟨oc, od, dV, kV, doc, pm, an, cdv, ct, osl, rfl, lk, hcd, hD, hK⟩:=F.ex
 rcases hD with ⟨e, _⟩ | ⟨_, T, o, its, m, rfl, lT, oT, rT⟩
 ·exact absurd e hd
 ·refine ⟨_, fun s self us as X h1 h2 => ?_, oc, od, osl, lk⟩
  obtain ⟨k, e1, e2⟩:=h T kV doc pm an cdv ct self us as its h1 h2 rT.length.symm
  refine BindsTo.of_looks fun M => ?_
  rw [e1]
  exact looks_items X lT oT (.of_pure e2)
def fMetK (c m : Str) (np : Nat) (ix : List Nat) (g : List W → Sto → R W) (fa : FE) (ga gk : FA) : FE:=fun ρ S => (fa ρ S).bind fun w S1 => match insW c S1 w with
 | some q => (match noName m q.2 with
  | true => (ga ρ S1).bind fun ws S2 => (gk ρ S2).bind fun ks S3 => (match decide (ws.length = np) && decide (ws.length + ks.length = ix.length) with
   | true => g (w :: reord (.dat .none) ix (ws ++ ks)) S3
   | false => .bad)
  | false => .bad)
 | none => .bad
section
variable {T : Tb} {X : Cx} {Wx : WX} {a e : Expr} {es : List Expr} {fa : FE} {ga gk : FA} {pos p apos : Pos} {c m : Str} {k np : Nat} {ps ks : List Str} {dv : List D} {g : List W → Sto → R W} {kws : List Keyword} {ix : List Nat}
theorem semE_metK {t : TE} {u v : TA} (hT : ∀ c : Str, T.cls c = some (He.ga X.K c)) (s1 : SemE T X.K Wx t fa) (s2 : SemA T X.K Wx u ga) (s3 : SemA T X.K Wx v gk) (hn : ix.length + 1 = ps.length) :
  SemE T X.K Wx (tMetK (He.ga X.K c) m (spV T X.K ps.length g) np (reord .non ix) (WE Wx) t u v) (fMetK c m np ix g fa ga gk):=by
 intro G F A S H σ ρ Q hw hs hp
 refine s1 G F A S H σ ρ _ hw hs (hp.bind fun w S1 F1 A1 H1 v1 e1 p1 w1 r1 hp1 => ?_)
 cases h3 : insW c S1 w with
 | none => rw [h3] at hp1; exact hp1.elim
 | some q =>
  obtain ⟨kk, fs⟩:=q
  rw [h3] at hp1
  dsimp only at hp1
  cases h4 : noName m fs with
  | false => rw [h4] at hp1; exact hp1.elim
  | true =>
   rw [h4] at hp1
   dsimp only at hp1
   obtain ⟨rfl, o, dx, bs, rfl, g1, g2, g3, _⟩:=insW_rep (T:=T.g G) hT w1 r1 h3
   refine ⟨o, dx, _, rfl, g2, noName_look h4, ?_⟩
   refine s2 G F1 A1 S1 H1 σ ρ _ w1 (hs.mono e1 p1) (hp1.bind fun ws S2 F2 A2 H2 v2 e2 p2 w2 r2 hp2 => ?_)
   refine s3 G F2 A2 S2 H2 σ ρ _ w2 ((hs.mono e1 p1).mono e2 p2) (hp2.bind fun xs S3 F3 A3 H3 v3 e3 p3 w3 r3 hp3 => ?_)
   cases h5 : decide (ws.length = np) && decide (ws.length + xs.length = ix.length) with
   | false => rw [h5] at hp3; exact hp3.elim
   | true =>
    rw [h5] at hp3
    obtain ⟨h6, h7⟩:=Bool.and_eq_true_iff.mp h5
    have h6:=of_decide_eq_true h6
    have h7:=of_decide_eq_true h7
    have lw:=rws_len r2
    have lx:=rws_len r3
    have r23:=prd_app (r2.mono e3 p3) r3
    refine ⟨by rw [← lw]; exact h6, G, F3, A3, S3, .loc kk 0 :: reord (.dat .none) ix (ws ++ xs), ?_, w3, .cons ((r1.mono e2 p2).mono e3 p3) ?_, hp3⟩
    ·rw [List.length_cons]
     unfold reord
     rw [decide_eq_true (by rw [List.length_append]; exact h7)]
     simp [hn]
    ·unfold reord
     rw [decide_eq_true (show (ws ++ xs).length = ix.length by rw [List.length_append]; exact h7), decide_eq_true (show (v2 ++ v3).length = ix.length by rw [List.length_append, ← lw, ← lx]; exact h7)]
     have one : ∀ i, RepW X.K F3 A3 ((ws ++ xs).getD i (.dat .none)) ((v2 ++ v3).getD i .non):=fun i => by
      rw [List.getD_eq_getElem?_getD, List.getD_eq_getElem?_getD]
      by_cases hi : i < (ws ++ xs).length
      ·obtain ⟨u, hu, ru⟩:=prd_get r23 (List.getElem?_eq_getElem hi)
       rw [hu, List.getElem?_eq_getElem hi]
       exact ru
      ·rw [List.getElem?_eq_none (by omega), List.getElem?_eq_none (by rw [List.length_append] at hi ⊢; omega)]
       exact .non
     exact paired_map one ix
theorem hb_of {fd : FuncData} {K : PySem.W.Frag} (h : KwB K fd ps ks np ix) (hn : ix.length + 1 = ps.length) (h0 : 0 < ix.length) : ∀ (s : Shared) (self : Value) (us as : List Value), K.In s.heap → us.length = np → (self :: reord .none ix (us ++ as)).length = ps.length → BindsTo s fd ⟨self :: us, ks.zip as⟩ (ps.zip (self :: reord .none ix (us ++ as))):=by
 intro s self us as hk h1 hl
 unfold reord at hl ⊢
 cases hq : decide ((us ++ as).length = ix.length) with
 | false =>
  rw [hq] at hl
  simp at hl
  omega
 | true =>
  have q:=of_decide_eq_true hq
  rw [List.length_append] at q
  exact h s self us as hk h1 q
theorem je_metK0 (hT : ∀ c : Str, T.cls c = some (He.ga X.K c)) (O : OkM T X.prog X.w X.K X.mg X.base k c m ps dv g) (hB : ∃ fd, KwB X.K fd ps ks 0 ix ∧ ∃ oc od osl, X.K.lookup (He.ma X.K (He.ga X.K c) m) = some ⟨oc, od, .func fd, osl⟩) (hr : Room k X.A) (hf : Free X.A) (tk : Takes X Wx) (ho : JE T X Wx a fa) (hk : JK T X Wx kws gk) {pl : Sem Bool} (hn : ix.length + 1 = ps.length:=by rfl) (h0 : 0 < ix.length:=by decide)
  (hall : (backToKw pos (keywordEach kws X.env)).all (·.1.isSome) = true:=by rfl) (hks : (backToKw pos (keywordEach kws X.env)).filterMap (·.1) = ks:=by rfl)
  (hpl : ((backTo pos (starEach [] X.env)).any (·.1) || (backToKw pos (keywordEach kws X.env)).any (·.1.isNone)) = false:=by rfl)
  (ht : eval (.Call (.Attribute a m apos) [] kws pos) X.env = (do
   let ov ← eval a X.env
   standAt apos.atName
   let (f, first) ← holding [ov] (getMethod ov m pl)
   callWith pos f first (backTo pos (starEach [] X.env)) (backToKw pos (keywordEach kws X.env))):=by rfl) :
  JE T X Wx (.Call (.Attribute a m apos) [] kws pos) (fMetK c m 0 ix g fa aNil gk):=by
 obtain ⟨fd, h1, _, _, oc, od, osl, hl⟩:=O.ex
 obtain ⟨fd', hb, oc', od', osl', hl'⟩:=hB
 rw [hl] at hl'
 cases hl'
 obtain ⟨t, a1, s1⟩:=ho
 obtain ⟨v, a3, s3⟩:=hk
 have hb0:=hb_of hb hn h0
 refine ⟨_, pe_metK0 (g:=reord .none ix) (gV:=reord .non ix) a1 O.cl O.me h1 hr hf (fun s self as hk hl => hb0 s self [] as hk rfl hl) reord_vals (fun σ => passAt tk σ) a3 hall hks hpl ht, semE_metK hT s1 (fun G F A S H σ ρ Q hw hs hp => ?_) s3 hn⟩
 exact hp F A H [] (Evl.Ex.refl _) (Pre.refl _) hw .nil
end
end Vz
namespace Vz
open PySem PySem.Spec PyProof.Rows L2
structure InsT (K : PySem.W.Frag) (c : Str) : Prop where
 a : PySem.W.findIn K (.ref (He.ga K c)) "__class__" = some (some (.builtin "object.__class__"))
 b : PySem.W.specialIn K (.builtin "object.__class__") "__get__" = some (some (.builtin "getset_descriptor.__get__"))
 d : PySem.W.takesIn K (.builtin "object.__class__") = some true
 e : PySem.W.mroIn K (He.ga K c) (.type "object") = some true
 f : PySem.W.kitOne K (.ref (He.ga K c)) (.ref (He.ga K c)) = some true
theorem insB_ok {K : PySem.W.Frag} {c : Str} (h : insB c K = true) : InsT K c:=by
 obtain ⟨h1, h⟩:=Bool.and_eq_true_iff.mp h
 obtain ⟨h2, h⟩:=Bool.and_eq_true_iff.mp h
 obtain ⟨h3, h⟩:=Bool.and_eq_true_iff.mp h
 obtain ⟨h4, h5⟩:=Bool.and_eq_true_iff.mp h
 exact ⟨He.eqO_ok h1, He.eqO_ok h2, of_decide_eq_true h3, of_decide_eq_true h4, of_decide_eq_true h5⟩
theorem ckIns_ok {c : Str} {f : PySem.W.Frag → Bool} {K : PySem.W.Frag} (h : ckIns c f K = true) : f K = true ∧ InsT K c:=by
 obtain ⟨h1, h2⟩:=Bool.and_eq_true_iff.mp h
 exact ⟨h1, insB_ok h2⟩
section
variable {X : Cx} {CX : CXT} {k : Nat} {f C : Addr} {fd : FuncData} {ps : List Str} {sp : Sp}
theorem goK2 {pins : List (Addr × Obj)} {σ : L2.St} {H : Hp} {s : Shared} {Q : VK} {E : XK} {us : List Value} {vs : List V} (F : FnK X.prog X.w X.K X.mg X.base CX k f fd ps sp) (hr : Room k X.A) (hf : Free X.A) (hx : Passes CX X E) (I : Inv X pins σ H s) (hb : Binds X.K fd ps []) (r : Vals vs us) (h : sp vs H Q E) :
  wpAny (model X.prog X.w) X.A (call (.ref f) us) (EP X pins σ Q) X.xe s:=by
 have hl : us.length = ps.length:=r.length.symm.trans (F.len _ _ _ _ h)
 have b:=hb s us I.kIn (by simpa using hl)
 rw [List.append_nil] at b
 refine wpAny_call (codeAny_mono (F.go X.A X.stack s H ⟨us, []⟩ us vs Q E hr hf I.env0 b r h) fun z s' hq => ?_)
 match z, hq with
 | .error er, hq => exact hx pins σ H s er s' I hq
 | .ok (.ret u), hq => exact I.after hq
 | .ok .next, hq => exact hq.elim
 | .ok .brk, hq => exact hq.elim
 | .ok .cont, hq => exact hq.elim
def rEqI (C : Addr) (sp : Sp) : R2:=fun x y H Q => ∃ a b dx dy fs gs, x = .ref a ∧ y = .ref b ∧ H a = some (.ins C dx fs) ∧ H b = some (.ins C dy gs) ∧ sp [.ref a, .ref b] H (fun v H2 => ∃ t, v = .bl t ∧ Q (.bl t) H2) noE
theorem op_eqI (hm : Meth X.K C "__eq__" f) (F : FnK X.prog X.w X.K X.mg X.base CX k f fd ps sp) (hr : Room k X.A) (hf : Free X.A) (hb : Binds X.K fd ps []) (hx : Passes CX X noE) : OpR X (compareOp .Eq) (rEqI C sp):=by
 intro pins s σ H x y v u Q I rx ry h
 obtain ⟨a, b, dx, dy, fs, gs, rfl, rfl, ha, hb', q⟩:=h
 cases rx
 cases ry
 obtain ⟨mA, J, _⟩:=ins_get I.hok ha
 obtain ⟨mB, J', _⟩:=ins_get I.hok hb'
 obtain ⟨od, J, _⟩:=J.look
 obtain ⟨od', J', _⟩:=J'.look
 obtain ⟨m, hF⟩:=I.fr
 show wpAny (model X.prog X.w) X.A (richCompare .Eq (.ref a) (.ref b)) (EP X pins σ Q) X.xe s
 refine PySem.W.cmp_K (op:=.Eq) (tb:=.ref C) hr.units0 hF I.ok.mod.kin J J'.type (by simp [PySem.W.notFirst]) hm.at_ hm.fn ?_
 refine wpAny_mono (goK2 (us:=[.ref a, .ref b]) F hr hf hx I hb (.cons (show RelV (.ref a) (.ref a) from rfl) (.cons (show RelV (.ref b) (.ref b) from rfl) .nil)) q) (fun w s' z => ?_) fun _ _ x => x
 obtain ⟨z, H', I', rz, t, rfl, q2⟩:=z
 cases rz
 exact ⟨.bl t, H', I', rfl, q2⟩
end
def fEqI (c : Str) (g : List W → Sto → R W) (fa fb : FE) : FE:=fun ρ S => (fa ρ S).bind fun w S1 => (fb ρ S1).bind fun w2 S2 => match insW c S2 w with
 | some _ => (match insW c S2 w2 with
  | some _ => (match g [w, w2] S2 with
   | .ok (.dat (.bool b)) S3 => .ok (.dat (.bool b)) S3
   | _ => .bad)
  | none => .bad)
 | none => .bad
def fIsI (c : Str) (fa : FE) : FE:=fun ρ S => (fa ρ S).bind fun w S1 => match insW c S1 w with
 | some _ => .ok (.dat (.bool true)) S1
 | none => .bad
section
variable {T : Tb} {X : Cx} {Wx : WX} {a b : Expr} {fa fb : FE} {p pos p1 p2 : Pos} {c : Str} {k : Nat} {ps : List Str} {dv : List D} {g : List W → Sto → R W}
theorem semE_eqI {t u : TE} (hT : ∀ c : Str, T.cls c = some (He.ga X.K c)) (s1 : SemE T X.K Wx t fa) (s2 : SemE T X.K Wx u fb) : SemE T X.K Wx (tOp (rEqI (He.ga X.K c) (spV T X.K 2 g)) t u) (fEqI c g fa fb):=by
 intro G F A S H σ ρ Q hw hs hp
 refine s1 G F A S H σ ρ _ hw hs (hp.bind fun w S1 F1 A1 H1 v1 e1 p1 w1 r1 hp1 => ?_)
 refine s2 G F1 A1 S1 H1 σ ρ _ w1 (hs.mono e1 p1) (hp1.bind fun y S2 F2 A2 H2 v2 e2 p2 w2 r2 hp2 => ?_)
 cases h3 : insW c S2 w with
 | none => rw [h3] at hp2; exact hp2.elim
 | some q =>
  obtain ⟨kk, fs⟩:=q
  rw [h3] at hp2
  dsimp only at hp2
  cases h4 : insW c S2 y with
  | none => rw [h4] at hp2; exact hp2.elim
  | some q =>
   obtain ⟨kk', fs'⟩:=q
   rw [h4] at hp2
   dsimp only at hp2
   have r1':=r1.mono e2 p2
   obtain ⟨rfl, o, dx, bs, rfl, g1, g2, g3, _⟩:=insW_rep (T:=T.g G) hT w2 r1' h3
   obtain ⟨rfl, o', dx', bs', rfl, g1', g2', g3', _⟩:=insW_rep (T:=T.g G) hT w2 r2 h4
   refine ⟨o, o', dx, dx', _, _, rfl, rfl, g2, g2', G, F2, A2, S2, [.loc kk 0, .loc kk' 0], rfl, w2, .cons r1' (.cons r2 .nil), ?_⟩
   cases h5 : g [.loc kk 0, .loc kk' 0] S2 with
   | bad => rw [h5] at hp2; exact hp2.elim
   | exc _ _ => rw [h5] at hp2; exact hp2.elim
   | ok w' S3 =>
    rw [h5] at hp2
    cases w' with
    | loc _ _ => exact hp2.elim
    | scr _ => exact hp2.elim
    | exn _ => exact hp2.elim
    | xl _ => exact hp2.elim
    | dat d =>
     cases d with
     | bool b =>
      intro F3 A3 H3 v e3 p3 w3 r3
      cases r3
      exact ⟨b, rfl, hp2 F3 A3 H3 _ e3 p3 w3 (show RepW X.K F3 A3 (.dat (.bool b)) (.bl b) from .bl b)⟩
     | _ => exact hp2.elim
theorem jt_eqI (hT : ∀ c : Str, T.cls c = some (He.ga X.K c)) (O : OkM T X.prog X.w X.K X.mg X.base k c "__eq__" ps dv g) (hr : Room k X.A) (hf : Free X.A) (tk : Takes X Wx) (ha : JE T X Wx a fa) (hb : JE T X Wx b fb) (hn : ps.length = 2:=by rfl) (hm : behindInMarks .Eq b = false:=by rfl) :
  JT T X Wx (.Compare a [.Eq] [b] pos) (fB (fEqI c g fa fb)):=by
 obtain ⟨fd, h1, h2, _, _⟩:=O.ex
 rw [hn] at h1
 obtain ⟨t, a1, s1⟩:=ha
 obtain ⟨u, a2, s2⟩:=hb
 exact ⟨_, pt_cmpR (op_eqI O.me h1 hr hf h2 (passes_call tk fun _ _ _ _ h => h.elim)) a1 a2 hm, semT_B (semE_eqI hT s1 s2)⟩
theorem semE_isI {t : TE} (hT : ∀ c : Str, T.cls c = some (He.ga X.K c)) (hc : Cls X.K (He.ga X.K c)) (E : InsT X.K c) (h : SemE T X.K Wx t fa) : SemE T X.K Wx (tCB (rIsi X.K) (tCons t (tCons (tC (.ref (He.ga X.K c))) tNil))) (fIsI c fa):=by
 intro G F A S H σ ρ Q hw hs hp
 refine h G F A S H σ ρ _ hw hs (hp.bind fun w S1 F1 A1 H1 v1 e1 p1 w1 r1 hp1 => ?_)
 cases h3 : insW c S1 w with
 | none => rw [h3] at hp1; exact hp1.elim
 | some q =>
  rw [h3] at hp1
  dsimp only at hp1
  obtain ⟨rfl, o, dx, bs, rfl, g1, g2, g3, _⟩:=insW_rep (T:=T.g G) hT w1 r1 h3
  exact ⟨_, _, _, _, true, rfl, .own _, .base (.ins g2 hc E.a E.b E.d E.e), E.f, hp1 F1 A1 H1 _ (Evl.Ex.refl _) (Pre.refl _) w1 (.bl _)⟩
theorem je_isI (hT : ∀ c : Str, T.cls c = some (He.ga X.K c)) (hc : Cls X.K (He.ga X.K c)) (E : InsT X.K c) (hm : X.mg "isinstance" = none) (hmx : X.mg c = some (.ref (He.ga X.K c))) (ha : JE T X Wx a fa) (hg : Gl X "isinstance":=by rfl) (hgx : Gl X c:=by rfl) (hdx : (c == ("__debug__" : Str)) = false:=by decide)
  (he : starEach [a, .Name c p2] X.env = (false, eval a X.env) :: starEach [.Name c p2] X.env:=by rfl) (he2 : starEach [.Name c p2] X.env = (false, eval (.Name c p2) X.env) :: starEach [] X.env:=by rfl) (hpl : (backTo pos (starEach [.Name c p2] X.env)).any (·.1) = false:=by rfl) :
  JE T X Wx (.Call (.Name "isinstance" p1) [a, .Name c p2] [] pos) (fIsI c fa):=by
 obtain ⟨t, h1, s1⟩:=ha
 have hA : PA X [a, .Name c p2] (tCons t (tCons (tC (.ref (He.ga X.K c))) tNil)):=pa_cons h1 (pa_cons (pe_glob hgx hmx rfl hdx) pa_nil he2) he
 exact ⟨_, pe_callB call_isi hg hm boot_isinstance hA (by decide) (by decide) he hpl, semE_isI hT hc E s1⟩
end
end Vz
namespace Vz
open PySem PySem.Spec PyProof.Rows L2
section
variable {prog : Program} {w : World} {A : Around} {E : Value → Shared → Prop} {s : Shared}
end
section
variable {X : Cx}
end
section
variable {T : Tb} {X : Cx} {Wx : WX} {a b e : Expr} {fa fb : FE} {ga : FA} {pos p : Pos}
end
end Vz
namespace Vz
open PySem PySem.Spec PyProof.Rows L2
section
variable {X : Cx} {n : Str} {cs : List Value} {i kk : Nat} {suite : List Stmt} {b₀ : Stmt} {ns : List (Str × Pos)} {pos' tpos : Pos} {ts : Addr → TS} {pins : List (Addr × Obj)} {σ' : L2.St} {H' : Hp} {D : Ends} {s' : Shared} {h3 B U : Heap} {a ca : Addr} {d : Option Addr} {b : Bool} {rest : List ExceptHandler}
end
section
variable {X : Cx} {n n' : Str} {cs cs' : List Value} {i i' kk kk' : Nat} {body suite suite' : List Stmt} {b₀ b₀' : Stmt} {ns ns' : List (Str × Pos)} {pos pos' tpos pos2 tpos2 : Pos} {tb : WX → TS} {ts ts' : Addr → TS} {Wout : WX}
end
section
variable {T : Tb} {X : Cx} {Wx : WX} {L : List Str} {B : List String} {tb : Str → String → Bool} {fl : List Str}
end
def rIsHeldT (K : PySem.W.Frag) : List V → Hp → VK → Prop:=fun xs H Q => ∃ (a C : Addr) (d : Option Addr) (tp : Addr) (cs : List V) (ws : List Value) (b : Bool), xs = [.ref a, .ref tp] ∧ H tp = some (.tup cs) ∧ Paired ClsV cs ws ∧ ExcC K C ∧ HeldO H a C d ∧ PySem.W.kitAny K (.ref C) ws = some b ∧ Q (.bl b) H
theorem call_isHeldT {X : Cx} : CallR X (.builtin "isinstance") (rIsHeldT X.K):=by
 intro pins s σ H xs us Q I r h
 obtain ⟨a, C, d, tp, cs, ws, b, rfl, hT, k, cc, ha, e, q⟩:=h
 obtain ⟨u1, u2, rfl, r1, r2⟩:=vals2 r
 cases (show u1 = Value.ref a from r1)
 cases (show u2 = Value.ref tp from r2)
 obtain ⟨ox, od, J⟩:=ha.inst I
 obtain ⟨cd, hcd, _⟩:=PySem.W.any_some cc.hd
 obtain ⟨_, its, rv, o, h1, h2, n, h3⟩:=(show ObjOk X.prog X.w H s.heap tp (.tup cs) from I.hok tp _ hT)
 have e3:=ClsV.all k rv
 subst e3
 obtain ⟨oc, od2, dt, sl⟩:=o
 simp only at h2 h3
 subst h2 h3
 exact PySem.W.kia_tup (PySem.W.kitx_exc (by rw [hcd]; rfl) cc.hg cc.hk cc.hs cc.ha cc.hn cc.ht cc.hm) I.kIn J h1 e (fun z => nomatch z) fun tk => ⟨.bl b, H, I.tok tk, rfl, q⟩
def tCl : List V → TA
 | [] => tNil
 | v :: r => tCons (tC v) (tCl r)
theorem tCl_eq : ∀ (vs : List V) (σ : L2.St) (H : Hp) (Q : List V → Hp → Prop), Q vs H → tCl vs σ H Q
 | [], _, _, _, h => h
 | v :: r, σ, H, Q, h => tCl_eq r σ H (fun xs H2 => Q (v :: xs) H2) h
section
variable {T : Tb} {X : Cx} {Wx : WX} {L : List Str} {B : List String} {tb : Str → String → Bool} {fl : List Str} {a : Expr} {fa : FE} {pos : Pos}
theorem je_isXT {es : List Expr} {kt : Nat} {p1 pt : Pos} {vs : List V} {ws : List Value} {g : Str → Bool} (E : ExT X.K L B tb fl) (hg0 : ∀ x ∈ L, PySem.W.kitAny X.K (.ref (He.ga X.K x)) ws = some (g x)) (hv : Paired ClsV vs ws) (hA : PA X es (tCl vs)) (hln : vs.length ≤ 1000)
  (hm : X.mg "isinstance" = none) (ha : JE T X Wx a fa) (hg : Gl X "isinstance":=by rfl)
  (he : starEach [a, .Tuple es kt pt] X.env = (false, eval a X.env) :: starEach [.Tuple es kt pt] X.env:=by rfl) (he2 : starEach [.Tuple es kt pt] X.env = (false, eval (.Tuple es kt pt) X.env) :: starEach [] X.env:=by rfl) (hpl : (backTo pos (starEach [.Tuple es kt pt] X.env)).any (·.1) = false:=by rfl) :
  JE T X Wx (.Call (.Name "isinstance" p1) [a, .Tuple es kt pt] [] pos) (fIsX L g fa):=by
 obtain ⟨t, h1, s1⟩:=ha
 refine ⟨_, pe_callB call_isHeldT hg hm boot_isinstance (pa_cons h1 (pa_cons (pe_tup (x1:=kt) (pos:=pt) hA) pa_nil he2) he) (by decide) (by decide) he hpl, fun G F A S H σ ρ Q hw hs hp => ?_⟩
 refine s1 G F A S H σ ρ _ hw hs (hp.bind fun w S1 F1 A1 H1 v1 e1 p1 w1 r1 hp1 => ?_)
 cases w with
 | dat d => exact hp1.elim
 | scr ns => exact hp1.elim
 | loc k j => exact hp1.elim
 | xl x => exact hp1.elim
 | exn x =>
  obtain ⟨a, rfl, r1⟩:=r1
  dsimp only at hp1
  cases hL : L.contains x.cls with
  | false => rw [hL] at hp1; exact hp1.elim
  | true =>
   rw [hL] at hp1
   have hx : x.cls ∈ L:=List.contains_iff_mem.mp hL
   refine tCl_eq vs σ H1 _ ⟨Nat.le_trans hln (by decide), fun pp hpn => ?_⟩
   have w2:=w1.junk hpn (.tup vs)
   obtain ⟨d, hd⟩:=r1.held w2.sub
   exact ⟨a, _, d, pp, vs, ws, _, rfl, upd_same, hv, E.c _ hx, hd, hg0 _ hx, hp1 F1 A1 _ _ (Evl.Ex.refl _) (Pre.refl _) w2 (.bl _)⟩
theorem bas_any {K : PySem.W.Frag} (E : ExT K L B tb fl) {x : Str} (hx : x ∈ L) : ∀ {cs : List String}, (∀ y ∈ cs, y ∈ B) → PySem.W.kitAny K (.ref (He.ga K x)) (cs.map Value.type) = some (cs.any (tb x))
 | [], _ => kitAny_nil
 | y :: cs, h => kitAny_cons (E.bas x hx y (h y (by simp))) (fun hb => by
   rw [List.any_cons, hb, Bool.false_or]
   exact bas_any E hx fun z hz => h z (List.mem_cons_of_mem _ hz)) (fun hb => by rw [List.any_cons, hb, Bool.true_or])
theorem cls_ty : ∀ cs : List String, Paired ClsV (cs.map V.ty) (cs.map Value.type)
 | [] => .nil
 | _ :: r => .cons (.ty _) (cls_ty r)
theorem je_isXTb {es : List Expr} {kt : Nat} {p1 pt : Pos} (cs : List String) (E : ExT X.K L B tb fl) (hcs : ∀ y ∈ cs, y ∈ B) (hA : PA X es (tCl (cs.map V.ty))) (hln : cs.length ≤ 1000)
  (hm : X.mg "isinstance" = none) (ha : JE T X Wx a fa) (hg : Gl X "isinstance":=by rfl)
  (he : starEach [a, .Tuple es kt pt] X.env = (false, eval a X.env) :: starEach [.Tuple es kt pt] X.env:=by rfl) (he2 : starEach [.Tuple es kt pt] X.env = (false, eval (.Tuple es kt pt) X.env) :: starEach [] X.env:=by rfl) (hpl : (backTo pos (starEach [.Tuple es kt pt] X.env)).any (·.1) = false:=by rfl) :
  JE T X Wx (.Call (.Name "isinstance" p1) [a, .Tuple es kt pt] [] pos) (fIsX L (fun x => cs.any (tb x)) fa) :=
 je_isXT E (fun x hx => bas_any E hx hcs) (cls_ty cs) hA (by rw [List.length_map]; exact hln) hm ha hg he he2 hpl
end
end Vz
namespace Vz
open PySem PySem.Spec PyProof.Rows L2
section
variable {T : Tb} {X : Cx} {Wx : WX} {e : Expr} {ga : FA} {pos p : Pos}
end
end Vz
namespace Vz
open PySem PySem.Spec PyProof.Rows L2
mutual
def tupD : D → Bool
 | .tup _ xs => tupDs xs
 | .list _ => false
 | .dT _ => false
 | .dK _ => false
 | _ => true
def tupDs : List D → Bool
 | [] => true
 | x :: xs => tupD x && tupDs xs
end
def tupOnly (F : Hp) : Hp:=fun a => match F a with
 | some (.tup vs) => some (.tup vs)
 | some (.frz o (.tup vs)) => some (.frz o (.tup vs))
 | _ => none
theorem tupOnly_some {F : Hp} {a : Addr} {o : HO} (h : tupOnly F a = some o) : F a = some o ∧ ∀ vs, o ≠ .lst vs:=by
 unfold tupOnly at h
 split at h
 ·rename_i vs e
  cases h
  exact ⟨e, fun _ z => by cases z⟩
 ·rename_i o2 vs e
  cases h
  exact ⟨e, fun _ z => by cases z⟩
 ·cases h
theorem tupOnly_tup {F : Hp} {a : Addr} {vs : List V} (h : F a = some (.tup vs)) : tupOnly F a = some (.tup vs):=by
 unfold tupOnly
 rw [h]
theorem tupOnly_frz {F : Hp} {a : Addr} {o : Obj} {vs : List V} (h : F a = some (.frz o (.tup vs))) : tupOnly F a = some (.frz o (.tup vs)):=by
 unfold tupOnly
 rw [h]
theorem TF.only {K : PySem.W.Frag} {F : Hp} {f : Fl} {a : Addr} {vs : List V} (h : TF K F f a vs) : TF K (tupOnly F) f a vs:=by
 cases f with
 | any =>
  rcases h with (h | ⟨o, h⟩) | h
  ·exact .inl (.inl (tupOnly_tup h))
  ·exact .inl (.inr ⟨o, tupOnly_frz h⟩)
  ·exact .inr h
 | key => exact tupOnly_tup h
 | nod =>
  rcases h with ⟨o, h, d⟩ | h
  ·exact .inl ⟨o, tupOnly_frz h, d⟩
  ·exact .inr h
mutual
theorem Rep.only {K : PySem.W.Frag} {F : Hp} : ∀ {d : D} {v : V}, tupD d = true → Rep K F d v → Rep K (tupOnly F) d v
 | _, _, _, .non => .non
 | _, _, _, .bl b => .bl b
 | _, _, _, .int i => .int i
 | _, _, _, .str x => .str x
 | _, _, h, .lst _ _ => by cases h
 | _, _, h, .tup t r => .tup t.only (Reps.only h r)
 | _, _, h, .dT _ _ => by cases h
 | _, _, h, .dK _ _ => by cases h
theorem Reps.only {K : PySem.W.Frag} {F : Hp} : ∀ {d : List D} {v : List V}, tupDs d = true → Reps K F d v → Reps K (tupOnly F) d v
 | _, _, _, .nil => .nil
 | _, _, h, .cons x r => .cons (Rep.only (Bool.and_eq_true_iff.mp h).1 x) (Reps.only (Bool.and_eq_true_iff.mp h).2 r)
end
def restG (F H : Hp) : Hp:=fun a => match tupOnly F a with
 | some _ => none
 | none => match H a with
  | some (.tbl _) => none
  | o => o
theorem restG_some {F H : Hp} {a : Addr} {o : HO} (h : restG F H a = some o) : H a = some o ∧ tupOnly F a = none ∧ ∀ ps, o ≠ .tbl ps:=by
 unfold restG at h
 cases e : tupOnly F a with
 | some _ => rw [e] at h; cases h
 | none =>
  rw [e] at h
  dsimp only at h
  split at h
  ·cases h
  ·rename_i o2 hn
   exact ⟨h, rfl, fun ps z => hn ps (by rw [h, z])⟩
theorem restG_at {F H : Hp} {a : Addr} {o : HO} (h : H a = some o) (h2 : tupOnly F a = none) (h3 : ∀ ps, o ≠ .tbl ps) : restG F H a = some o:=by
 unfold restG
 rw [h2, h]
 dsimp only
 split
 ·rename_i ps e
  exact absurd (Option.some.inj e) (h3 ps)
 ·rfl
section
variable {T : Tb} {K : PySem.W.Frag} {F H H' F' G : Hp} {A A' : List (List Addr)} {S S' : Sto}
theorem Wd.bare (hw : Wd (T.g G) K F A S H) : Wd (T.g (restG F H)) K (tupOnly F) [] [] H:=by
 refine ⟨fun a o e => hw.sub a o (tupOnly_some e).1, rfl, fun k as c h1 h2 => by simp at h1, by simp, fun a ha => by simp at ha, fun a o e => (restG_some e).1, fun a ha => by simp at ha, fun a o e => ?_, ⟨hw.tb.tabs, fun p hp => ?_, fun p hp => ?_, fun p hp => by simp, fun b ps e => ?_, fun b ps e => ?_, fun b hb => by simp at hb⟩⟩
 ·left
  show restG F H a = none
  unfold restG
  rw [e]
 ·cases e : tupOnly F p.1 with
  | none => rfl
  | some o => exact absurd (tupOnly_some e).1 (by rw [hw.tb.f p hp]; exact fun z => by cases z)
 ·show restG F H p.1 = none
  cases e : restG F H p.1 with
  | none => rfl
  | some o =>
   obtain ⟨h1, _, h3⟩:=restG_some e
   obtain ⟨ps, q1, _⟩:=hw.tb.tabs p hp
   rw [q1] at h1
   exact absurd (Option.some.inj h1).symm (h3 ps)
 ·exact hw.tb.nf b ps (tupOnly_some e).1
 ·exact (restG_some (show restG F H b = some (.tbl ps) from e)).2.2 ps rfl
theorem Wd.stood (hw : Wd (T.g G) K F A S H) (e : Ex (tupOnly F) F') (w' : Wd (T.g (restG F H)) K F' A' S' H') {a : Addr} {o : HO} (h : H a = some o) (h3 : ∀ ps, o ≠ .tbl ps) : H' a = some o:=by
 cases q : tupOnly F a with
 | some o2 =>
  have q1:=hw.sub a o2 (tupOnly_some q).1
  rw [h] at q1
  cases q1
  exact w'.sub a o (e a o q)
 | none => exact w'.gh a o (restG_at h q h3)
theorem Wd.back (hw : Wd (T.g G) K F A S H) (e : Ex (tupOnly F) F') (w' : Wd (T.g (restG F H)) K F' A' S' H') : Wd (T.g G) K F A S H':=by
 have st : ∀ {a o}, H a = some o → (∀ ps, o ≠ .tbl ps) → H' a = some o:=fun h h3 => hw.stood e w' h h3
 have atA : ∀ a ∈ A.flatten, H' a = H a:=fun a ha => by
  have:=hw.there a ha
  cases q : H a with
  | none => rw [q] at this; cases this
  | some o => exact st q fun ps z => hw.tb.na a ha ps (by rw [q, z])
 refine ⟨fun a o h => st (hw.sub a o h) fun ps z => hw.tb.nf a ps (by rw [h, z]), hw.len, fun k as c h1 h2 => (hw.ok k as c h1 h2).more (Evl.Ex.refl F) (fun a ha e => e) (fun a ha _ => atA a (mem_flat h1 ha)), hw.nod, fun a ha => by rw [atA a ha]; exact hw.there a ha,
  fun a o h => st (hw.gh a o h) fun ps z => hw.tb.ng a ps (by rw [h, z]), hw.gd, hw.fg, ⟨w'.tb.tabs, hw.tb.f, hw.tb.g, hw.tb.a, hw.tb.nf, hw.tb.ng, fun b hb ps => by rw [atA b hb]; exact hw.tb.na b hb ps⟩⟩
end
section
variable {T : Tb} {X : Cx} {Wx : WX} {e : Expr} {f : FE}
end
theorem ExT.sub {K : PySem.W.Frag} {L L' : List Str} {B : List String} {tb : Str → String → Bool} {fl : List Str} (h : ExT K L B tb fl) (hs : ∀ x ∈ L', x ∈ L) : ExT K L' B tb fl :=
 ⟨fun x hx => h.c x (hs x hx), fun x hx => h.fld x (hs x hx), fun x hx y hy => h.exm x (hs x hx) y (hs y hy), fun x hx y hy => h.isi x (hs x hx) y (hs y hy), fun x hx b hb => h.bas x (hs x hx) b hb⟩
end Vz
namespace Vz
open PySem PySem.Spec PyProof.Rows L2
def tMkE (t : L2.St → Hp → XK → Prop) : TE:=fun σ H Q => t σ H fun cls d H1 => ∃ ca, cls = Value.ref ca ∧ ∀ a, H1 a = none → Q (.ref a) (upd H1 a (exnHO a ca d))
theorem pe_mkx {X : Cx} {e : Expr} {t : L2.St → Hp → XK → Prop} (hex : X.ex = []) (h : PMk X e t) : PE X e (tMkE t):=by
 refine ⟨fun pins s σ H Q I hq => ?_⟩
 refine wpAny_mono (h pins s σ H _ I hq) (fun u s1 hu => ?_) (fun _ _ x => x)
 obtain ⟨a, oe, vs, sI, H1, cls, d, rfl, J, k, ne, ha, hz, hd, _, na, os, ag, _, ca, rfl, q⟩:=hu
 have dif : ∀ b o, sI.heap.get? b = some o → b ≠ a:=fun b o z e => by rw [e, ne] at z; cases z
 have J1:=J.kept (t':=s1.toks) k
 have J2 : Inv X pins σ H1 s1:=⟨J1.ok, os.trans J.os, ag, J1.base, J1.loc, J1.cell, J1.free, J1.freeC, J1.pin, J1.hok, J1.len⟩
 have n0 : X.s_0.heap.get? a = none:=by
  cases e : X.s_0.heap.get? a with
  | none => rfl
  | some o =>
   obtain ⟨o', z⟩:=J.base.there a o e (by rw [hex]; exact fun z => nomatch z)
   exact absurd rfl (dif a _ z)
 have nL : a ≠ X.env.locals:=by
  obtain ⟨m, hn, _⟩:=J.loc
  obtain ⟨o, _, _, ho, _⟩:=hn
  exact fun z => dif _ _ ho z.symm
 exact ⟨.ref a, _, Inv.hold J2 ha hz.1 hz.2 hd na n0 nL (fun x c z => by
  obtain ⟨v, o, ho, _⟩:=J.cell x c z
  exact dif _ _ ho) (fun p hp => dif _ _ (J.pin p hp).1), rfl, q a na⟩
end Vz
namespace Vz
open PySem PySem.Spec PyProof.Rows L2
def fMkX (c f : Str) (g : FA) : FE:=fun ρ S => (g ρ S).bind fun ws S1 => match ws with
 | [.dat d] => .ok (.exn ⟨c, [(f, d)]⟩) S1
 | _ => .bad
def fMkX0 (c : Str) : FE:=fun ρ S => .ok (.exn ⟨c, []⟩) S
section
variable {T : Tb} {X : Cx} {Wx : WX} {k : Nat} {c f : Str} {e : Expr} {g : FA} {p pos : Pos}
theorem semE_mkX {t : TA} (s1 : SemA T X.K Wx t g) : SemE T X.K Wx (tMkE (tMkB (He.ga X.K c) (spIn (He.ga X.K c) [f]) t)) (fMkX c f g):=by
 intro G F A S H σ ρ Q hw hs hp
 refine s1 G F A S H σ ρ _ hw hs (hp.bind fun ws S' F' A' H' vs e1 p1 w' r q => ?_)
 match ws, r, q with
 | [], _, q => exact q.elim
 | .loc _ _ :: _, _, q => cases ‹List W› <;> exact q.elim
 | .scr _ :: _, _, q => cases ‹List W› <;> exact q.elim
 | .exn _ :: _, _, q => cases ‹List W› <;> exact q.elim
 | .xl _ :: _, _, q => cases ‹List W› <;> exact q.elim
 | .dat d :: _ :: _, _, q => exact q.elim
 | [.dat d], .cons (b:=v) r .nil, q =>
  have r : Rep X.K F' d v:=r
  refine ⟨show 1 ≤ 1000 by decide, fun a na => ⟨a, v, rfl, upd_same, fun dx nd ne => ⟨rfl, .inl ⟨dx, [(f, v)], upd_same, by rw [upd_ne ne, upd_same], ?_, ?_⟩⟩⟩⟩
  ·rw [upd_ne ne] at nd
   exact nd
  ·rw [upd_ne ne] at nd
   have eH : upd (del (upd (upd (upd H' a (exo a (He.ga X.K c) none)) dx (exd dx [(f, v)])) a (exo a (He.ga X.K c) (some dx))) a) dx (.xd [(f, v)]) = upd H' dx (.xd [(f, v)]):=by
    funext b
    by_cases hb : b = dx
    ·rw [hb, upd_same, upd_same]
    ·rw [upd_ne hb, upd_ne hb]
     by_cases ha : b = a
     ·rw [ha, del_same, na]
     ·rw [del_ne ha, upd_ne ha, upd_ne hb, upd_ne ha]
   rw [eH]
   have w1:=w'.new nd (.xd [(f, v)])
   have e2:=w'.exNew nd (.xd [(f, v)])
   refine ⟨_, rfl, fun a2 na2 => ?_⟩
   have w2:=w1.new na2 (exnHO a2 (He.ga X.K c) (some dx))
   have e3:=w1.exNew na2 (exnHO a2 (He.ga X.K c) (some dx))
   exact q _ A' _ _ (e2.trans e3) (Pre.refl _) w2 ⟨a2, rfl, _, upd_same, .inr ⟨dx, _, rfl, e3 _ _ upd_same, .cons ⟨rfl, Rep.mono (e2.trans e3) r⟩ .nil⟩⟩
theorem je_mkx1 (hex : X.ex = []) (D : Xc X.prog X.w X.K X.mg X.base k c [f]) (hr : Room (k + 1) X.A) (he : JA T X Wx [e] g) (hg : Gl X c:=by rfl)
  (hdb : (c == ("__debug__" : Str)) = false:=by decide) (hs : starEach [e] X.env = (false, eval e X.env) :: starEach [] X.env:=by rfl) : JE T X Wx (.Call (.Name c p) [e] [] pos) (fMkX c f g):=by
 obtain ⟨B, newId, initId, bm, fI, fd, bf, oe, ini, fn, F1, hb⟩:=D.ex
 obtain ⟨t, h1, s1⟩:=he
 exact ⟨_, pe_mkx hex (pmkB bf oe ini fn F1 hr hb hg D.glo h1 hdb hs rfl), semE_mkX s1⟩
theorem je_mkx0 (hex : X.ex = []) (D : Xc X.prog X.w X.K X.mg X.base k c []) (hr : Room (k + 1) X.A) (hg : Gl X c:=by rfl)
  (hdb : (c == ("__debug__" : Str)) = false:=by decide) : JE T X Wx (.Call (.Name c p) [] [] pos) (fMkX0 c):=by
 obtain ⟨B, newId, initId, bm, fI, fd, bf, oe, ini, fn, F1, hb⟩:=D.ex
 refine ⟨_, pe_mkx hex (pmkB0 bf oe ini fn F1 hr hb hg D.glo hdb), fun G F A S H σ ρ Q hw hs hp => ?_⟩
 refine ⟨show 0 ≤ 1000 by decide, fun a na => ⟨a, rfl, upd_same, ⟨rfl, .inr ⟨rfl, _, rfl, fun a2 na2 => ?_⟩⟩⟩⟩
 have w2:=hw.new na2 (exnHO a2 (He.ga X.K c) none)
 have e3:=hw.exNew na2 (exnHO a2 (He.ga X.K c) none)
 exact hp _ A _ _ e3 (Pre.refl _) w2 ⟨a2, rfl, _, upd_same, .inl ⟨rfl, rfl⟩⟩
end
end Vz
namespace Vz
open PySem PySem.Spec PyProof.Rows L2
def exnsW : List W → Option (List Exn)
 | [] => some []
 | .exn x :: ws => (exnsW ws).map fun xs => x :: xs
 | _ :: _ => none
def XAt (K : PySem.W.Frag) (F : Hp) (x : Exn) (u : V) : Prop:=∃ b, u = V.ref b ∧ ExnAt K F x b
theorem XAt.mono {K : PySem.W.Frag} {F F' : Hp} {x : Exn} {u : V} (e : Ex F F') (h : XAt K F x u) : XAt K F' x u:=by
 obtain ⟨b, h1, h2⟩:=h
 exact ⟨b, h1, h2.mono e⟩
theorem exns_rep {K : PySem.W.Frag} {F : Hp} {A : List (List Addr)} : ∀ {ws : List W} {vs : List V} {xs : List Exn}, RepWs K F A ws vs → exnsW ws = some xs → Paired (XAt K F) xs vs
 | _, _, _, .nil, h => by cases h; exact .nil
 | _, _, _, .cons (a:=w) r rs, h => by
  cases w with
  | exn x =>
   obtain ⟨q, h2, rfl⟩:=om h
   exact .cons r (exns_rep rs h2)
  | dat d => cases h
  | loc k j => cases h
  | scr ns => cases h
  | xl x => cases h
theorem xat_app {K : PySem.W.Frag} {F : Hp} : ∀ {xs ys : List Exn} {vs us : List V}, Paired (XAt K F) xs vs → Paired (XAt K F) ys us → Paired (XAt K F) (xs ++ ys) (vs ++ us)
 | _, _, _, _, .nil, h => h
 | _, _, _, _, .cons q r, h => .cons q (xat_app r h)
def fDispX (g : FA) : FE:=fun ρ S => (g ρ S).bind fun ws S1 => match exnsW ws with
 | some xs => (match decide (xs.length ≤ 1000) with
  | true => .ok (.xl xs) S1
  | false => .bad)
 | none => .bad
section
variable {T : Tb} {X : Cx} {Wx : WX} {es : List Expr} {ga : FA} {pos : Pos} {a b : Expr} {fa fb : FE}
theorem je_dispX (h : JA T X Wx es ga) : JE T X Wx (.List es pos) (fDispX ga):=by
 obtain ⟨t1, h1, s1⟩:=h
 refine ⟨_, pe_lst h1, fun G F A S H σ ρ Q hw hs hp => ?_⟩
 refine s1 G F A S H σ ρ _ hw hs (hp.bind fun ws S1 F1 A1 H1 v1 e1 p1 w1 r1 hp1 => ?_)
 cases h0 : exnsW ws with
 | none => rw [h0] at hp1; exact hp1.elim
 | some xs =>
  rw [h0] at hp1
  dsimp only at hp1
  cases hl : decide (xs.length ≤ 1000) with
  | false => rw [hl] at hp1; exact hp1.elim
  | true =>
   rw [hl] at hp1
   have rr:=exns_rep r1 h0
   have hl:=of_decide_eq_true hl
   refine ⟨by rw [← rr.length, sizeLine_eq]; omega, fun p hpn => ?_⟩
   have e2:=w1.exNew hpn (.lst v1)
   exact hp1 _ A1 _ _ e2 (Pre.refl _) (w1.new hpn (.lst v1)) ⟨p, rfl, v1, upd_same, Paired.mapP rr fun _ _ q => q.mono e2⟩
def fCatX (f g : FE) : FE:=fun ρ S => (f ρ S).bind fun x S1 => (g ρ S1).bind fun y S2 => match x, y with
 | .xl xs, .xl ys => (match decide (xs.length + ys.length ≤ 1000) with
  | true => .ok (.xl (xs ++ ys)) S2
  | false => .bad)
 | _, _ => .bad
theorem je_catX (ha : JE T X Wx a fa) (hb : JE T X Wx b fb) : JE T X Wx (.BinOp a .Add b pos) (fCatX fa fb):=by
 obtain ⟨ta, h1, s1⟩:=ha
 obtain ⟨tb, h2, s2⟩:=hb
 refine ⟨_, pe_op op_cat h1 h2, fun G F A S H σ ρ Q hw hs hp => ?_⟩
 refine s1 G F A S H σ ρ _ hw hs (hp.bind fun x S1 F1 A1 H1 v1 e1 p1 w1 r1 hp1 => ?_)
 refine s2 G F1 A1 S1 H1 σ ρ _ w1 (hs.mono e1 p1) (hp1.bind fun y S2 F2 A2 H2 v2 e2 p2 w2 r2 hp2 => ?_)
 have r1:=r1.mono e2 p2
 match x, y, r1, r2, hp2 with
 | .xl xs, .xl ys, ⟨p, hv, vs, h3, h4⟩, ⟨q, hv2, us, h5, h6⟩, hp2 =>
  dsimp only at hp2
  cases hl : decide (xs.length + ys.length ≤ 1000) with
  | false => rw [hl] at hp2; exact hp2.elim
  | true =>
   rw [hl] at hp2
   have hl:=of_decide_eq_true hl
   subst hv hv2
   refine ⟨p, q, vs, us, rfl, rfl, w2.sub _ _ h3, w2.sub _ _ h5, by rw [← h4.length, ← h6.length, sizeLine_eq]; omega, fun n hn => ?_⟩
   have e3:=w2.exNew hn (.lst (vs ++ us))
   exact hp2 _ A2 _ _ e3 (Pre.refl _) (w2.new hn (.lst (vs ++ us))) ⟨n, rfl, _, upd_same, (Paired.mapP (xat_app h4 h6) fun _ _ z => XAt.mono e3 z)⟩
 | .dat _, _, _, _, hp2 => exact hp2.elim
 | .loc _ _, _, _, _, hp2 => exact hp2.elim
 | .scr _, _, _, _, hp2 => exact hp2.elim
 | .exn _, _, _, _, hp2 => exact hp2.elim
 | .xl _, .dat _, _, _, hp2 => exact hp2.elim
 | .xl _, .loc _ _, _, _, hp2 => exact hp2.elim
 | .xl _, .scr _, _, _, hp2 => exact hp2.elim
 | .xl _, .exn _, _, _, hp2 => exact hp2.elim
end
end Vz
namespace Vz
open PySem PySem.Spec PyProof.Rows L2
theorem xat_at {K : PySem.W.Frag} {F : Hp} {xs : List Exn} {vs : List V} (r : Paired (XAt K F) xs vs) {i : Int} {x : Exn} (e : atI xs i = some x) : ∃ v, atI vs i = some v ∧ XAt K F x v:=by
 unfold atI at e ⊢
 rw [← r.length]
 obtain ⟨j, h1, h2⟩:=ob e
 obtain ⟨v, h3, h4⟩:=prd_get r h2
 exact ⟨v, by rw [h1]; exact h3, h4⟩
section
variable {T : Tb} {X : Cx} {Wx : WX} {a b : Expr} {fa fb : FE} {pos : Pos}
def fIxX (f g : FE) : FE:=fun ρ S => (f ρ S).bind fun w S1 => (g ρ S1).bind fun i S2 => match w, i with
 | .xl xs, .dat (.int i) => R.lift ((atI xs i).map W.exn) S2
 | _, _ => .bad
theorem je_ixX (ha : JE T X Wx a fa) (hb : JE T X Wx b fb) (hs : PlainIx b:=by intro _ _; rfl) : JE T X Wx (.Subscript a b pos) (fIxX fa fb):=by
 obtain ⟨ta, h1, s1⟩:=ha
 obtain ⟨tb, h2, s2⟩:=hb
 refine ⟨_, pe_ix L2.ix_list h1 h2 hs, fun G F A S H σ ρ Q hw hs hp => ?_⟩
 refine s1 G F A S H σ ρ _ hw hs (hp.bind fun w S1 F1 A1 H1 v1 e1 p1 w1 r1 hp1 => ?_)
 refine s2 G F1 A1 S1 H1 σ ρ _ w1 (hs.mono e1 p1) (hp1.bind fun i S2 F2 A2 H2 v2 e2 p2 w2 r2 hp2 => ?_)
 replace r1:=r1.mono e2 p2
 split at hp2
 ·rename_i xs k
  obtain ⟨w', h3, q⟩:=hp2.lift
  obtain ⟨x, h4, rfl⟩:=om h3
  obtain ⟨pp, rfl, vs, hF, hP⟩:=r1
  cases r2
  obtain ⟨v, h5, h6⟩:=xat_at hP h4
  exact ⟨pp, vs, k, v, rfl, rfl, .inl (.inl (w2.sub _ _ hF)), h5, q F2 A2 H2 _ (Evl.Ex.refl _) (Pre.refl _) w2 h6⟩
 ·exact hp2.elim
end
end Vz
namespace Vz
open PySem PySem.Builtin PySem.HandSPX
section
variable {prog : Program} {w : World} {A : Around} {E : Value → Shared → Prop} {R : Result → Shared → Prop} {hp : Heap} {gs : Array GenState} {dr : Drawn} {tk : Nat} {os : OsState}
variable {nm q : Str} {C N : Addr} {bs bm : List Value} {sn : List Str} {sub : List Value} {ab : Bool} {col : Option Bool} {dd : Option Addr} {k0 k1 k2 k3 k5 : Option Value} {B newId initId : String} {kw : List (Str × Value)}
abbrev heapX (hp : Heap) (C : Addr) : Heap:=(hp.push (PySem.W.kdv_tup [])).push (PySem.HandSPX.excO C hp.objs.size)
theorem kw_new (bf : ExcBaseFacts B newId initId bm) (cc : hp.get? C = some (excClassObj nm q C N bs bm true sn sub ab col dd k0 k1 k2 k3 k5 newId))
  (fin : R (.ok (.ret (.ref (hp.objs.size + 1)))) ⟨heapX hp C, gs, dr, tk, os⟩) : codeAny (model prog w) A (.builtin newId ⟨[.ref C], kw⟩) R ⟨hp, gs, dr, tk, os⟩:=by
 have e1:=bf.ends
 have m1 : (Value.ref C :: bm).contains (.type B) = true:=by
  rw [List.contains_cons, bf.hasB]
  exact Bool.or_true _
 have m2 : (Value.ref C :: bm).contains (.type "AttributeError") = false:=by
  rw [List.contains_cons, bf.noAttr]
  rfl
 have m3 : (Value.ref C :: bm).contains (.type "NameError") = false:=by
  rw [List.contains_cons, bf.noName]
  rfl
 refine codeAny_builtinAt bf.entry ?_
 unfold Builtin.«BaseException.__new__»
 refine wpAt_bind ?_
 show wpAt _ _ _ (stack >>= _) _ _ _
 refine wpAt_bind (wpAt_stack fun pp bl => wpAt_of_wpAny ?_)
 wp_walk
 refine wpAt_of_wpAny ?_
 rw [bf.owner]
 repeat (first
  | with_reducible refine wpAny_madeHere_exc bf.canon cc ?_
  | with_reducible refine wpAny_loadPart_at cc ?_
  | (with_reducible refine wpAny_isSubtype_exc cc ?_; first | rw [m1] | rw [m2] | rw [m3])
  | wp_step)
 show R _ _
 rw [Heap.size_push]
 exact fin
theorem kw_check {Q : Unit → Shared → Prop} (bf : ExcBaseFacts B newId initId bm) (cc : hp.get? C = some (excClassObj nm q C N bs bm true sn sub ab col dd k0 k1 k2 k3 k5 newId))
  (fin : Q () ⟨hp, gs, dr, tk, os⟩) : wpAny (model prog w) A (checkBuiltinCall newId ⟨[.ref C], kw⟩) Q E ⟨hp, gs, dr, tk, os⟩:=by
 have m1 : (Value.ref C :: bm).contains (.type B) = true:=by
  rw [List.contains_cons, bf.hasB]
  exact Bool.or_true _
 have st:=bf.noStar
 simp only [checkBuiltinCall, bf.newKind, bf.newSplit, bf.newRow]
 repeat (first
  | refine wpAny_loadPart_at cc ?_
  | (refine wpAny_isSubtype_exc cc ?_; rw [m1])
  | refine wpAny_staticBase_exc cc ?_
  | refine wpAny_madeBy_exc cc ?_
  | simp only [bne_self_eq_false, Bool.false_eq_true, if_false]
  | wp_step)
 exact fin
theorem kw_tcheck {Q : Unit → Shared → Prop} (cc : hp.get? C = some (excClassObj nm q C N bs bm true sn sub ab col dd k0 k1 k2 k3 k5 newId))
  (fin : Q () ⟨hp, gs, dr, tk, os⟩) : wpAny (model prog w) A (checkBuiltinCall "type.__call__" ⟨[.ref C], kw⟩) Q E ⟨hp, gs, dr, tk, os⟩:=by
 have z3:=tc_sub
 have ty : (⟨hp, gs, dr, tk, os⟩ : Shared).TypeIs (.ref C) "type":=⟨_, cc, rfl⟩
 simp only [checkBuiltinCall, tc_kind, tc_split]
 repeat (any_goals (first
  | assumption
  | with_reducible refine wpAny_loadPart_at cc ?_
  | with_reducible refine wpAny_onRaise ?_
  | with_reducible refine wpAny_map ?_
  | wp_step))
theorem kw_type {fI : Addr} {Q : Fin → Shared → Prop} (bf : ExcBaseFacts B newId initId bm) (cc : hp.get? C = some (excClassObj nm q C N bs bm true sn sub ab col dd k0 k1 k2 k3 k5 newId))
  (li : PySem.W.Looks (model prog w) hp (typeLookup (.ref C) "__init__") (some (.ref fI))) (lb : ∀ self, PySem.W.Looks (model prog w) hp (bindSpecial (.ref fI) self) (.ref fI, [self]))
  (fin : codeAny (model prog w) A (.call (.ref fI) ⟨[.ref (hp.objs.size + 1)], kw⟩) (fun r s' => match r with
   | .ok (.ret v) => v = .none ∧ Q (.done (.ret (.ref (hp.objs.size + 1)))) s'
   | .ok _ => False
   | .error e => E e s') ⟨heapX hp C, gs, dr, tk, os⟩) :
  wpAny (model prog w) A (Builtin.«type.__call__» ⟨[.ref C], kw⟩) Q E ⟨hp, gs, dr, tk, os⟩:=by
 repeat (first
  | with_reducible refine wpAny_loadPart_at cc ?_
  | with_reducible refine wpAny_madeBy_exc cc ?_
  | wp_step)
 refine codeAny_call_builtin_code (Code.quiet_builtin _ bf.quiet) (kw_check bf cc ?_)
 refine kw_new bf cc ?_
 show wpAny _ _ _ _ _ _
 have kk : ∀ b o, hp.get? b = some o → (heapX hp C).get? b = some o:=fun b o z => Heap.get?_push_of_some _ (Heap.get?_push_of_some _ z)
 have cc1:=kk _ _ cc
 have got : (heapX hp C).get? (hp.objs.size + 1) = some (excO C hp.objs.size):=by heap_get
 have mC : (Value.ref C :: bm).contains (.ref C) = true:=by simp
 have i1:=li.keeps kk
 have b1:=(lb (.ref (hp.objs.size + 1))).keeps kk
 unfold isInstance
 repeat (first
  | with_reducible refine wpAny_loadPart_at got ?_
  | (with_reducible refine wpAny_isSubtype_exc cc1 ?_; rw [mC])
  | wp_step)
 show wpAny _ _ (typeLookup (.ref C) _) _ _ _
 refine i1.at (wpAny_holding (wpAny_bind (b1.at (wpAny_bind (wpAny_call (codeAny_mono fin fun r s' z => ?_))))))
 match r, z with
 | .error e, z => exact z
 | .ok .next, z => exact z.elim
 | .ok .brk, z => exact z.elim
 | .ok .cont, z => exact z.elim
 | .ok (.ret v), z =>
  obtain ⟨rfl, z⟩:=z
  first
   | exact wpAny_pure (wpAny_pure z)
   | (wp_walk; exact z)
theorem kw_call {fI : Addr} (bf : ExcBaseFacts B newId initId bm) (cc : hp.get? C = some (excClassObj nm q C N bs bm true sn sub ab col dd k0 k1 k2 k3 k5 newId))
  (li : PySem.W.Looks (model prog w) hp (typeLookup (.ref C) "__init__") (some (.ref fI))) (lb : ∀ self, PySem.W.Looks (model prog w) hp (bindSpecial (.ref fI) self) (.ref fI, [self]))
  (fin : codeAny (model prog w) (A.under (.builtin "type.__call__" ⟨[.ref C], kw⟩)) (.call (.ref fI) ⟨[.ref (hp.objs.size + 1)], kw⟩) (PySem.W.InitBack (hp.objs.size + 1) R) ⟨heapX hp C, gs, dr, tk, os⟩) :
  codeAny (model prog w) A (.call (.ref C) ⟨[], kw⟩) R ⟨hp, gs, dr, tk, os⟩:=by
 have z1:=tc_lookup
 have z2:=tc_bind (.ref C)
 have ty : (⟨hp, gs, dr, tk, os⟩ : Shared).TypeIs (.ref C) "type":=⟨_, cc, rfl⟩
 refine codeAny_of_tree ?_
 show wpAny _ _ (callAny (.ref C) _) _ _ _
 repeat (any_goals (first
  | assumption
  | with_reducible refine wpAny_loadPart_at cc ?_
  | wp_step))
 refine ⟨rfl, ?_⟩
 refine codeAny_call_builtin_at (Code.quiet_builtin _ (by decide +kernel)) entry_typeCall (kw_tcheck cc (kw_type bf cc li lb ?_))
 refine codeAny_mono fin fun r s' z => ?_
 match r, z with
 | .error e, z => exact z
 | .ok (.ret v), z => exact z
 | .ok .next, z => exact z
 | .ok .brk, z => exact z
 | .ok .cont, z => exact z
end
end Vz
namespace Vz
open PySem PySem.Spec PyProof.Rows L2
def KwF (K : PySem.W.Frag) (fd : FuncData) (f : Str) : Prop:=∀ (s : Shared) (a b : Value), K.In s.heap → BindsTo s fd ⟨[a], [(f, b)]⟩ ([selfS, f].zip [a, b])
structure XcK (P : Program) (w : World) (K : PySem.W.Frag) (mg : Str → Option Value) (base : Heap) (k : Nat) (c : Str) (f : Str) : Prop where
 glo : mg c = some (.ref (He.ga K c))
 ex : ∃ (B newId initId : String) (bm : List Value) (fI : Addr) (fd : FuncData), BaseF B newId initId bm ∧ OeC K (He.ga K c) newId bm ∧ PySem.W.findIn K (.ref (He.ga K c)) "__init__" = some (some (.ref fI)) ∧ PySem.W.typeIn K (.ref fI) = some (.type "function") ∧
  FnOk P w K mg base (L2.CX P w) k fI fd [selfS, f] (spIn (He.ga K c) [f]) ∧ Binds K fd [selfS, f] [] ∧ KwF K fd f
theorem XcK.xc {P : Program} {w : World} {K : PySem.W.Frag} {mg : Str → Option Value} {base : Heap} {k : Nat} {c f : Str} (D : XcK P w K mg base k c f) : Xc P w K mg base k c [f]:=by
 obtain ⟨B, newId, initId, bm, fI, fd, bf, oe, ini, fn, F1, hb, _⟩:=D.ex
 exact ⟨D.glo, B, newId, initId, bm, fI, fd, bf, oe, ini, fn, F1, hb⟩
section
variable {X : Cx} {C fI : Addr} {k : Nat} {fd : FuncData} {f : Str} {sp : Sp} {B newId initId : String} {bm : List Value} {x : Str} {tk : TA} {p pos : Pos} {kws : List Keyword}
theorem make_runK {pins : List (Addr × Obj)} {σ : L2.St} {H1 : Hp} {Q : XK} {s1 : Shared} {us : List Value} {vs : List V} (bf : BaseF B newId initId bm) (T : OeC X.K C newId bm) (iC : PySem.W.findIn X.K (.ref C) "__init__" = some (some (.ref fI))) (tI : PySem.W.typeIn X.K (.ref fI) = some (.type "function"))
  (F1 : FnOk X.prog X.w X.K X.mg X.base (L2.CX X.prog X.w) k fI fd [selfS, f] sp) (hr : Room (k + 1) X.A) (hb : KwF X.K fd f) (I1 : Inv X pins σ H1 s1) (r1 : Vals vs us)
  (q1 : ∀ a, H1 a = none → sp (.ref a :: vs) (upd H1 a (exo a C none)) (fun v H2 => v = .non ∧ ((∃ (d : Addr) (fs : List (Str × V)), H2 a = some (exo a C (some d)) ∧ H2 d = some (exd d fs) ∧ H1 d = none ∧ Q (.ref C) (some d) (upd (del H2 a) d (.xd fs))) ∨ (H2 = upd H1 a (exo a C none) ∧ Q (.ref C) none H1))) (fun _ _ _ => False)) :
  wpAny (model X.prog X.w) X.A (call (.ref C) [] ([f].zip us)) (MkP X pins σ Q) X.xe s1:=by
 obtain ⟨nm, qn, N, bs, sn, sub, ab, col, dd, k0, k1, k2, k3, k5, hC⟩:=T.cls
 obtain ⟨hp, g, dr, tk, os⟩:=s1
 have big : hp.objs.size ≤ hp.objs.size + 1:=Nat.le_succ _
 have hn : H1 (hp.objs.size + 1) = none:=I1.hok.fresh big
 have hq:=q1 (hp.objs.size + 1) hn
 have kk : ∀ b o, hp.get? b = some o → (heapX hp C).get? b = some o:=fun b o z => Heap.get?_push_of_some _ (Heap.get?_push_of_some _ z)
 have got : (heapX hp C).get? (hp.objs.size + 1) = some (PySem.HandSPX.excO C hp.objs.size):=by heap_get
 have I2 : Inv X pins σ (upd H1 (hp.objs.size + 1) (exo (hp.objs.size + 1) C none)) ⟨heapX hp C, g, dr, tk, os⟩ :=
  I1.laid (t':=tk) (o:=exo (hp.objs.size + 1) C none) kk big (exo_ok got)
 have r2 : Vals (V.ref (hp.objs.size + 1) :: vs) (Value.ref (hp.objs.size + 1) :: us):=.cons rfl r1
 have hl : (Value.ref (hp.objs.size + 1) :: us).length = 2:=by
  have z:=r2.length
  rw [F1.len _ _ _ _ hq] at z
  exact z.symm
 match us, r1, r2, hl with
 | [u], r1, r2, _ =>
 have bb:=hb _ (Value.ref (hp.objs.size + 1)) u I2.kIn
 have il:=PySem.W.looks_findIn (M:=model X.prog X.w) I1.kIn iC
 refine wpAny_call (kw_call bf.ex (I1.kIn _ _ hC) il (fun self => PySem.W.bind_fn I1.kIn self tI) ?_)
 refine codeAny_mono (F1.run _ X.stack _ _ ⟨[Value.ref (hp.objs.size + 1)], [(f, u)]⟩ [Value.ref (hp.objs.size + 1), u] _ _ (fun _ _ _ => False) (hr.make C [] [(f, u)]) (I2.env0.make C [] [(f, u)]) bb r2 hq) fun r s' z => ?_
 match r, z with
 | .error er, z =>
  obtain ⟨_, _, _, _, _, _, _, _, _, _, _, _, z⟩:=z
  exact z.elim
 | .ok .next, z => exact z.elim
 | .ok .brk, z => exact z.elim
 | .ok .cont, z => exact z.elim
 | .ok (.ret u), z =>
  obtain ⟨h2, g2, d2, t2, os'⟩:=s'
  obtain ⟨v, H2, os2, bare2, un2, hok2, rv, ev, zz⟩:=z
  subst ev
  have rs:=raises_own (X:=X) T.exC T.tyC
  rcases zz with ⟨d, fs, ea, ed, hd1, q2⟩ | ⟨eH, q2⟩
  ·exact ⟨rv, mk_end rs I1 big kk un2 hok2 os2 bare2 ea ed hd1 q2⟩
  ·subst eH
   refine ⟨rv, ?_⟩
   obtain ⟨t0, G, J, kG, ge, hoe⟩:=let_go (d2:=d2) (t2:=t2) I1 big kk un2 hok2 os2 bare2 hn
   exact ⟨_, _, _, ⟨G, g2, d2, t2, os'⟩, H1, .ref C, none, rfl, J, kG, ge, hoe, ⟨rfl, rfl⟩, rfl, rfl, hn, rfl, bare2, rs, q2⟩
theorem pmkK (bf : BaseF B newId initId bm) (T : OeC X.K C newId bm) (iC : PySem.W.findIn X.K (.ref C) "__init__" = some (some (.ref fI))) (tI : PySem.W.typeIn X.K (.ref fI) = some (.type "function"))
  (F1 : FnOk X.prog X.w X.K X.mg X.base (L2.CX X.prog X.w) k fI fd [selfS, f] sp) (hr : Room (k + 1) X.A) (hb : KwF X.K fd f) (hg : Gl X x) (hm : X.mg x = some (.ref C)) (ha : PK X kws tk)
  (hall : (backToKw pos (keywordEach kws X.env)).all (·.1.isSome) = true:=by rfl) (hks : (backToKw pos (keywordEach kws X.env)).filterMap (·.1) = [f]:=by rfl)
  (hdb : (x == ("__debug__" : Str)) = false:=by decide) (hpl : ((backTo pos (starEach [] X.env)).any (·.1) || (backToKw pos (keywordEach kws X.env)).any (·.1.isNone)) = false:=by rfl) :
  PMk X (.Call (.Name x p) [] kws pos) (tMkB C sp tk):=by
 intro pins s σ H Q I h
 refine wpAny_Call_Name_kw (ld_glob I hg hm ?_ hdb)
 refine PySem.W.callWith_KW0 (h₀:=X.base) I.ok.mod.kin T.kC hall (thn (ha.run pos pins s σ H _ I h) ?_) hpl
 rintro us s1 ⟨vs, H1, I1, r1, hz, q1⟩
 refine ⟨I1.kIn, ?_⟩
 rw [hks]
 exact make_runK bf T iC tI F1 hr hb I1 r1 q1
end
theorem xc_oneK {P : Program} {w : World} {K : PySem.W.Frag} {mg : Str → Option Value} {base : Heap} {c f : Str} {B newId initId : String} {bm : List Value} {qual : Str} {params : Arguments} {body : List Stmt} {scope : Scope} (bf : BaseF B newId initId bm) {x : XcD} (s : XcSays K x) (hc : x.c = c) (hn : x.newId = newId) (hbm : x.bm = bm)
  (hF : ∃ fd, FunD K "__init__" qual params body scope [] [] (He.ma K (He.ga K c) "__init__") fd) (hg : mg c = some (.ref (He.ga K c))) (S : FnScope [selfS, f] [selfS, f] scope)
  (hb : ∀ (kV doc pm : Value) (an : Option Addr) (cdv ct : Value) (us : List Value), us.length = [selfS, f].length → bindArgs (PySem.W.fnOf "__init__" qual params body scope .none kV doc pm an cdv ct) ⟨us, []⟩ = pure ([selfS, f].zip us)) (hno : PySem.W.findIn K (.ref (He.ga K c)) f = some none)
  (h : ∀ (cdv : Value) (A : Around) (outer : List PySem.Env) (s : Shared) (H : Hp) (E : XK), ∃ ta : TA, PSs (cxOf (L2.CX P w) P w K mg base [selfS, f] qual scope (He.ma K (He.ga K c) "__init__") cdv A outer s H E) body (tSeq (tDrop (tBi K newId bm ta)) (tOs K newId bm f (tVar 0) (tVar 1))) ∧
   ∀ (a : Addr) (y : V) (H : Hp) (Q : List V → Hp → Prop), (∀ z, Q [V.ref a, V.str z] H) → ta [some (.ref a), some y] H Q)
  (hk : ∀ (kV doc pm : Value) (an : Option Addr) (cdv ct a b : Value), bindArgs (PySem.W.fnOf "__init__" qual params body scope .none kV doc pm an cdv ct) ⟨[a], [(f, b)]⟩ = pure ([selfS, f].zip [a, b])) : XcK P w K mg base 1 c f:=by
 subst hc hn hbm
 obtain ⟨fd, F⟩:=hF
 have hkw : KwF K fd f:=by
  obtain ⟨_, _, dV, kV, doc, pm, an, cdv, ct, _, rfl, _, _, dv, _⟩:=F.ex
  have hd : dV = .none:=by
   rcases dv with ⟨_, z⟩ | ⟨z, _⟩
   ·exact z
   ·exact (z rfl).elim
  subst hd
  exact fun _ a b _ => .of_eq (hk kV doc pm an cdv ct a b)
 refine ⟨hg, B, _, initId, _, _, fd, bf, s.oe, s.ini, s.fun_, ?_, F.bindsN hb, hkw⟩
 refine F.ok S (fun vs H Q E h => spIn_len h) fun cdv A outer s0 H vs Q E hr hsp => ?_
 obtain ⟨ta, h1, h2⟩:=h cdv A outer s0 H E
 obtain ⟨a, y, rfl, ea, q⟩:=hsp
 refine ⟨_, h1, h2 a y H _ fun z => ⟨a, _, [.str z], rfl, (by show 1 ≤ 1000; decide), s.oe, ea, ?_⟩⟩
 exact ⟨y, rfl, .ref a, rfl, a, _, rfl, s.oe, hno, ea, q⟩
section
variable {T : Tb} {X : Cx} {Wx : WX} {k : Nat} {c f : Str} {e : Expr} {g : FA} {p pos kp : Pos}
theorem je_mkxK (hex : X.ex = []) (D : XcK X.prog X.w X.K X.mg X.base k c f) (hr : Room (k + 1) X.A) (he : JK T X Wx [⟨some f, e, kp⟩] g) (hg : Gl X c:=by rfl)
  (hdb : (c == ("__debug__" : Str)) = false:=by decide) (hall : (backToKw pos (keywordEach [⟨some f, e, kp⟩] X.env)).all (·.1.isSome) = true:=by rfl) (hks : (backToKw pos (keywordEach [⟨some f, e, kp⟩] X.env)).filterMap (·.1) = [f]:=by rfl)
  (hpl : ((backTo pos (starEach [] X.env)).any (·.1) || (backToKw pos (keywordEach [⟨some f, e, kp⟩] X.env)).any (·.1.isNone)) = false:=by rfl) : JE T X Wx (.Call (.Name c p) [] [⟨some f, e, kp⟩] pos) (fMkX c f g):=by
 obtain ⟨B, newId, initId, bm, fI, fd, bf, oe, ini, fn, F1, _, hb⟩:=D.ex
 obtain ⟨t, h1, s1⟩:=he
 exact ⟨_, pe_mkx hex (pmkK bf oe ini fn F1 hr hb hg D.glo h1 hall hks hdb hpl), semE_mkX s1⟩
end
end Vz
namespace Vz
open PySem PySem.Spec PyProof.Rows L2
def forWF (n : Nat) (bd : W → Rho → Sto → Out) : List W → Rho → Sto → Out
 | [], ρ, S => .nx ρ S
 | w :: ws, ρ, S => match bd w ρ S with
  | .nx ρ' S' => forWF n bd ws (cutR n ρ') (S'.take n)
  | .ct ρ' S' => forWF n bd ws (cutR n ρ') (S'.take n)
  | .bk ρ' S' => .nx (cutR n ρ') (S'.take n)
  | r => r
def bodyW (gg : FG) (g : FS) : W → Rho → Sto → Out:=fun w ρ S => match gg w ρ S with
 | some (ρ', S') => g ρ' S'
 | none => .bad
def sForW (ga : FA) (gg : FG) (g : FS) : FS:=fun ρ S => (ga ρ S).then ρ fun ws S1 => match decide (ws.length ≤ 1000) with
 | true => forWF S1.length (bodyW gg g) ws ρ S1
 | false => .bad
section
variable {T : Tb} {X : Cx} {Wx : WX} {tg elt : Expr} {es ifs : List Expr} {ga : FA} {g : FS} {k : Nat} {pos tpos : Pos} {f : FE} {fe : FE}
theorem js_forW {body : List Stmt} {gg : FG} (hpass : PassesOwn (model X.prog X.w) X.A X.env X.xe) (hc : X.calm = true) (ha : JA T X Wx es ga) (hg : JG T X tg gg) (hb : JB T X Wx body g) (hs : ∀ x, foldedSetIterable (.Tuple es k tpos) X.env x = pure x:=by intro _; rfl) :
  JS T X Wx (.For tg (.Tuple es k tpos) body [] pos) (sForW ga gg g):=by
 obtain ⟨ta, h1, s1⟩:=ha
 obtain ⟨tG, h2, s2⟩:=hg
 obtain ⟨tB, h3, s3⟩:=hb
 refine ⟨_, ps_for hpass hc (PI.run' (pe_tup h1)) h2 h3 hs, fun G F A S H σ ρ D hw hsl hp => ?_⟩
 refine s1 G F A S H σ ρ _ hw hsl (PostS.then hsl hp fun ws S1 F1 A1 H1 vs e1 p1 w1 r1 q => ?_)
 cases hl : decide (ws.length ≤ 1000) with
 | false => rw [hl] at q; exact q.elim
 | true =>
 rw [hl] at q
 have hl:=of_decide_eq_true hl
 have lv : ws.length = vs.length:=Paired.length r1
 refine ⟨by rw [← lv, sizeLine_eq]; omega, fun pp hpn => ?_⟩
 have w2:=w1.new hpn (.tup vs)
 have e2:=w1.exNew hpn (.tup vs)
 have hF : upd F1 pp (.tup vs) pp = some (.tup vs):=upd_same
 have r2:=RepWs.mono e2 (Pre.refl A1) r1
 rw [← w1.len] at q
 refine .inr ⟨pp, rfl, ⟨vs, .of upd_same⟩, ?_⟩
 refine ⟨fun i m σ' H' => ∃ F' S' ρ', Ex (upd F1 pp (.tup vs)) F' ∧ Wd (T.g G) X.K F' A1 S' H' ∧ Sl X.K F' A1 ρ' σ' ∧ i + m = ws.length ∧ PostS (T.g G) X.K F' A1 (forWF A1.length (bodyW gg g) (ws.drop i) ρ' S') D Wx,
  ⟨ws.length, _, S1, ρ, Evl.Ex.refl _, w2, (hsl.mono e1 p1).mono e2 (Pre.refl _), by omega, PostS.shift q e2 (Pre.refl _)⟩, ?_⟩
 rintro i m σ' H' ⟨F', S', ρ', e', w', s', him, q'⟩
 have hq : SqT X.K H' pp vs:=.of (w'.sub _ _ (e' _ _ hF))
 by_cases hlt : i < ws.length
 ·have hw0 : ws[i]? = some ws[i]:=List.getElem?_eq_getElem hlt
  obtain ⟨v, hv, rv⟩:=prd_get r2 hw0
  rw [List.drop_eq_getElem_cons hlt] at q'
  unfold forWF at q'
  refine .inr ⟨⟨vs, v, hq, hv⟩, fun σ2 H2 => ∃ F2 S2 ρ2, Ex (upd F1 pp (.tup vs)) F2 ∧ Wd (T.g G) X.K F2 A1 S2 H2 ∧ Sl X.K F2 A1 ρ2 σ2 ∧ PostS (T.g G) X.K F2 A1 (forWF A1.length (bodyW gg g) (ws.drop (i + 1)) ρ2 S2) D Wx, ?_, fun x H'' y => ?_⟩
  ·rintro σ2 H2 ⟨F2, S2, ρ2, e2, w2, s2', q2⟩
   exact ⟨m - 1, by omega, F2, S2, ρ2, e2, w2, s2', by omega, q2⟩
  ·obtain ⟨rfl, y2⟩:=y
   have hx:=y2 vs hq
   rw [hv] at hx
   cases Option.some.inj hx
   unfold bodyW at q'
   cases q0 : gg ws[i] ρ' S' with
   | none => rw [q0] at q'; exact q'.elim
   | some z =>
    obtain ⟨ρ3, S3⟩:=z
    rw [q0] at q'
    dsimp only at q'
    have rv' : RepW X.K F' A1 ws[i] v:=rv.mono e' (Pre.refl _)
    refine s2 G F' A1 S' H'' σ' ρ' ws[i] v _ w' s' rv' ⟨ρ3, S3, q0, fun F4 A4 σ4 H4 e4 p4 w4 s4 => ?_⟩
    refine s3 G F4 A4 S3 H4 σ4 ρ3 _ w4 s4 ?_
    have q3:=PostS.shift q' e4 (Pre.refl _)
    clear q'
    cases q5 : g ρ3 S3 with
    | nx ρ5 S5 =>
     rw [q5] at q3
     intro F5 A5 H5 σ5 e5 p5 w5 s5
     obtain ⟨w6, s6⟩:=PostS.cutNx (p4.trans p5) w5 s5
     exact ⟨F5, S5.take A1.length, _, (e'.trans e4).trans e5, w6, s6, PostS.shift q3 e5 (Pre.refl _)⟩
    | ct ρ5 S5 =>
     rw [q5] at q3
     intro F5 A5 H5 σ5 e5 p5 w5 s5
     obtain ⟨w6, s6⟩:=PostS.cutNx (p4.trans p5) w5 s5
     exact ⟨F5, S5.take A1.length, _, (e'.trans e4).trans e5, w6, s6, PostS.shift q3 e5 (Pre.refl _)⟩
    | bk ρ5 S5 =>
     rw [q5] at q3
     intro F5 A5 H5 σ5 e5 p5 w5 s5
     obtain ⟨w6, s6⟩:=PostS.cutNx (p4.trans p5) w5 s5
     exact q3 F5 A1 H5 σ5 e5 (Pre.refl _) w6 s6
    | rt w5 S5 => rw [q5] at q3; exact PostS.shift q3 (Evl.Ex.refl _) p4
    | exc x5 ρ5 S5 => rw [q5] at q3; exact PostS.shift q3 (Evl.Ex.refl _) p4
    | bad => rw [q5] at q3; exact q3
 ·rw [List.drop_eq_nil_of_le (by omega)] at q'
  refine .inl ⟨⟨vs, hq, ?_⟩, q' F' A1 H' σ' (Evl.Ex.refl _) (Pre.refl _) w' s'⟩
  rw [← lv]
  omega
def lcXF (n : Nat) (i : Nat) (f : FE) (ρ : Rho) : List Exn → Sto → R (List D)
 | [], S => .ok [] S
 | x :: xs, S => (f (ρ.set i (some (.exn x))) S).noX.bind fun w S2 => match frd S2 w with
  | some d => (lcXF n i f ρ xs (S2.take n)).bind fun r S3 => .ok (d :: r) S3
  | none => .bad
def lCompX (fx : FE) (i : Nat) (own : List Nat) (f : FE) : FL:=fun ρ S => (fx ρ S).bind fun w S1 => match w with
 | .xl xs => (match decide (xs.length ≤ 1000) with
  | true => lcXF S1.length i f (wipeR ρ own) xs S1
  | false => .bad)
 | _ => .bad
theorem jl_compX {iter : Expr} {i : Nat} {scope : Scope} {own : List (Str × Nat)} {fx : FE} (hc : X.calm = true) (hN : X.N.Nodup) (hi : JE T X Wx iter fx) (ok : BlkOk X.N X.env.scope scope own)
  (hg : ∀ (s : Shared) (H : Hp) (C : Addr) (cl : List (Str × Addr)) (fp : List Addr), PG (X.blk s H scope (compEnvC scope cl C X.env) fp) tg (fun v σ H Q => Q (σ.set i (some v)) H))
  (he : ∀ (s : Shared) (H : Hp) (C : Addr) (cl : List (Str × Addr)) (fp : List Addr), JE T (X.blk s H scope (compEnvC scope cl C X.env) fp) noW elt f) (hv : i ∈ own.map (·.2):=by decide) (hs : ∀ x, foldedSetIterable iter X.env x = pure x:=by intro _; rfl) :
  JL T X Wx (.ListComp elt [⟨tg, iter, [], 0⟩] scope pos) (lCompX fx i (own.map (·.2)) f):=by
 obtain ⟨ti, h1, s1⟩:=hi
 refine ⟨_, pe_lc (te:=cE T X.K noW f) (tt:=tYes) (g:=fun v σ H Q => Q (σ.set i (some v)) H) hc hN (PI.run' h1) ok (fun s H C cl fp => hg s H C cl fp) (fun s H C cl fp => pts_nil) (fun s H C cl fp => (he s H C cl fp).pe) hs, fun G F A S H σ ρ Q hw hsl hp => ?_⟩
 refine s1 G F A S H σ ρ _ hw hsl (hp.bind fun w S1 F1 A1 H1 v e1 p1 w1 r1 q => ?_)
 cases w with
 | dat _ => exact q.elim
 | loc _ _ => exact q.elim
 | scr _ => exact q.elim
 | exn _ => exact q.elim
 | xl xs =>
 dsimp only at q
 cases hl : decide (xs.length ≤ 1000) with
 | false => rw [hl] at q; exact q.elim
 | true =>
 rw [hl] at q
 have hl:=of_decide_eq_true hl
 obtain ⟨a, rfl, vs, hF, hP⟩:=r1
 refine .inl ⟨a, rfl, ⟨vs, .of (w1.sub _ _ hF)⟩, ?_⟩
 intro Dd hD
 dsimp only at q
 rw [← w1.len] at q
 have nF : F1 Dd = none:=w1.freshF hD
 have nG : G Dd = none:=Evl.fresh_back w1.gh hD
 have nA : Dd ∉ A1.flatten:=fun z => by
  have:=w1.there Dd z
  rw [hD] at this
  cases this
 have hq : ∀ {F' : Hp} {S' : Sto} {H' : Hp}, Ex F1 F' → Wd (T.g G) X.K F' A1 S' H' → SqL X.K H' a vs:=fun e w => .of (w.sub _ _ (e _ _ hF))
 refine ⟨fun i' m H' => ∃ F' S' acc us, Ex F1 F' ∧ Wd (T.g G) X.K F' A1 S' H' ∧ F' Dd = none ∧ H' Dd = some (.lst us) ∧ Reps X.K F' acc us ∧ acc.length ≤ i' ∧ i' + m = xs.length ∧
  PostL (T.g G) X.K F' A1 ((lcXF A1.length i f (wipeR ρ (own.map (·.2))) (xs.drop i') S').bind fun r S2 => .ok (acc ++ r) S2) Q (fun c d H' => Wx c d σ H'),
  ⟨xs.length, F1, S1, [], [], Evl.Ex.refl _, w1.junk hD _, nF, upd_same, .nil, Nat.zero_le _, by simp, ?_⟩, ?_⟩
 ·rw [List.drop_zero]
  cases h1 : lcXF A1.length i f (wipeR ρ (own.map (·.2))) xs S1 with
  | ok r S2 => rw [h1] at q; exact q
  | exc x S2 => rw [h1] at q; exact q
  | bad => rw [h1] at q; exact q
 ·rintro i' m H' ⟨F', S', acc, us, e', w', nF', hH', hr', hal, him, q'⟩
  have hqq:=hq e' w'
  by_cases hlt : i' < xs.length
  ·have hx0 : xs[i']? = some xs[i']:=List.getElem?_eq_getElem hlt
   obtain ⟨v, hv', rv⟩:=prd_get hP hx0
   rw [List.drop_eq_getElem_cons hlt] at q'
   unfold lcXF at q'
   refine .inr ⟨⟨vs, v, hqq, hv'⟩, fun H2 => ∃ F2 S2 acc2 us2, Ex F1 F2 ∧ Wd (T.g G) X.K F2 A1 S2 H2 ∧ F2 Dd = none ∧ H2 Dd = some (.lst us2) ∧ Reps X.K F2 acc2 us2 ∧ acc2.length ≤ i' + 1 ∧
    PostL (T.g G) X.K F2 A1 ((lcXF A1.length i f (wipeR ρ (own.map (·.2))) (xs.drop (i' + 1)) S2).bind fun r S2 => .ok (acc2 ++ r) S2) Q (fun c d H' => Wx c d σ H'), ?_, fun x H'' y => ?_⟩
   ·rintro H2 ⟨F2, S2, acc2, us2, a1, a2, a3, a4, a5, a6, a7⟩
    exact ⟨m - 1, by omega, F2, S2, acc2, us2, a1, a2, a3, a4, a5, a6, by omega, a7⟩
   ·obtain ⟨rfl, y2⟩:=y
    have hx:=y2 vs hqq
    rw [hv'] at hx
    cases Option.some.inj hx
    have w2:=w'.still hH' nF' nG nA
    have sw : Sl X.K F' A1 (wipeR ρ (own.map (·.2))) (L2.wipe σ (own.map (·.2))):=((hsl.mono e1 p1).mono e' (Pre.refl _)).wipe _
    have rv' : RepW X.K F' A1 (.exn xs[i']) v:=by
     obtain ⟨b, hb, hx⟩:=rv
     exact ⟨b, hb, hx.mono e'⟩
    have s':=sw.set i rv'
    refine ⟨(wipe_set_in hv).trans wipe_wipe, ?_⟩
    simp only [if_true]
    refine ⟨_, F', A1, S', _, w2, s', ?_⟩
    cases qf : f ((wipeR ρ (own.map (·.2))).set i (some (.exn xs[i']))) S' with
    | bad => rw [qf] at q'; exact q'.elim
    | exc x2 S3 => rw [qf] at q'; exact q'.elim
    | ok w S3 =>
     rw [qf] at q'
     simp only [R.noX, R.bind] at q'
     intro F5 A5 H5 v5 e5 p5 w5 r5
     cases qd : frd S3 w with
     | none => rw [qd] at q'; exact q'.elim
     | some d =>
      rw [qd] at q'
      dsimp only at q'
      have rd5:=frd_rep w5 r5 qd
      obtain ⟨w6, h6, f6, a6⟩:=w5.unstill nG
      refine ⟨us, h6, ?_, ?_⟩
      ·rw [← hr'.length]
       exact lim_lt (by unfold lim; omega)
      ·have w7:=(w6.grow (o:=.lst (us ++ [v5])) f6 nG a6 h6).cut A1.length
       rw [p5.cutW] at w7
       refine ⟨F5, S3.take A1.length, acc ++ [d], us ++ [v5], e'.trans e5, w7, f6, upd_same, (hr'.mono e5).append (.cons rd5 .nil), by rw [List.length_append, List.length_singleton]; omega, ?_⟩
       refine PostL.shift (F:=F') (A:=A1) ?_ e5 (Pre.refl _)
       cases h1 : lcXF A1.length i f (wipeR ρ (own.map (·.2))) (xs.drop (i' + 1)) (S3.take A1.length) with
       | ok r S4 =>
        rw [h1] at q'
        simp only [R.bind, List.append_assoc]
        exact q'
       | exc x S4 =>
        rw [h1] at q'
        exact q'
       | bad =>
        rw [h1] at q'
        exact q'
  ·rw [List.drop_eq_nil_of_le (by omega)] at q'
   unfold lcXF at q'
   simp only [R.bind, List.append_nil] at q'
   refine .inl ⟨⟨vs, hqq, ?_⟩, q' F' A1 H' Dd us (Evl.Ex.refl _) (Pre.refl _) w' hH' nF' nG nA hr'⟩
   rw [← Paired.length hP]
   omega
end
end Vz
namespace Vz
open PySem PySem.Spec PyProof.Rows L2
theorem bt_KeyError : bootBuiltins "KeyError" = some (.type "KeyError"):=by kernel_rfl
theorem bt_IndexError : bootBuiltins "IndexError" = some (.type "IndexError"):=by kernel_rfl
theorem bt_ZeroDivisionError : bootBuiltins "ZeroDivisionError" = some (.type "ZeroDivisionError"):=by kernel_rfl
theorem bt_NotImplementedError : bootBuiltins "NotImplementedError" = some (.type "NotImplementedError"):=by kernel_rfl
def KwN (K : PySem.W.Frag) (fd : FuncData) (ps ks : List Str) : Prop :=
 ∀ (s : Shared) (self : Value) (as : List Value), K.In s.heap → as.length = ks.length → BindsTo s fd ⟨[self], ks.zip as⟩ (ps.zip (self :: (as ++ [.none])))
theorem kwn_dfl {K : PySem.W.Frag} {x qual : Str} {params : Arguments} {body : List Stmt} {scope : Scope} {fa : Addr} {ps ks : List Str} (hF : ∃ fd, FunD K x qual params body scope [.non] [] fa fd)
  (h : ∀ (T : Addr) (kV doc pm : Value) (an : Option Addr) (cdv ct self : Value) (as : List Value), as.length = ks.length → ∃ k, bindArgs (PySem.W.fnOf x qual params body scope (.ref T) kV doc pm an cdv ct) ⟨[self], ks.zip as⟩ = seqItems? (.ref T) >>= k ∧ k (some #[.none]) = pure (ps.zip (self :: (as ++ [.none])))) :
  ∃ fd, KwN K fd ps ks ∧ ∃ oc od osl, K.lookup fa = some ⟨oc, od, .func fd, osl⟩:=by
 obtain ⟨fd, F⟩:=hF
 obtain ⟨oc, od, dV, kV, doc, pm, an, cdv, ct, osl, rfl, lk, hcd, hD, hK⟩:=F.ex
 rcases hD with ⟨e, _⟩ | ⟨_, T, o, its, m, rfl, lT, oT, rT⟩
 ·cases e
 ·have ei : its = [.none]:=by
   cases rT with
   | cons r rr =>
    cases rr
    cases (show _ = Value.none from r)
    rfl
  subst ei
  refine ⟨_, fun s self as X h1 => ?_, oc, od, osl, lk⟩
  obtain ⟨k, e1, e2⟩:=h T kV doc pm an cdv ct self as h1
  refine BindsTo.of_looks fun M => ?_
  rw [e1]
  exact looks_items X lT oT (.of_pure e2)
theorem metK_Q {C : Addr} {m : Str} {sp : Sp} {gV : List V → List V} {E : L2.St → XK} {t : TE} {v : TA} : tMetK C m sp 0 gV E t tNil v = tMetQ C m sp gV E t v:=by
 funext σ H Q
 unfold tMetK tMetQ tNil
 simp
section
variable {T : Tb} {X : Cx} {Wx : WX} {a e : Expr} {fa : FE} {gk : FA} {pos p apos : Pos} {c m : Str} {k n : Nat} {ps ks : List Str} {g : List W → Sto → R W} {kws : List Keyword}
theorem je_metN (hT : ∀ c : Str, T.cls c = some (He.ga X.K c)) (O : OkM T X.prog X.w X.K X.mg X.base k c m ps [.none] g) (hB : ∃ fd, KwN X.K fd ps ks ∧ ∃ oc od osl, X.K.lookup (He.ma X.K (He.ga X.K c) m) = some ⟨oc, od, .func fd, osl⟩) (hr : Room k X.A) (hf : Free X.A) (tk : Takes X Wx) (ho : JE T X Wx a fa) (hk : JK T X Wx kws gk) {pl : Sem Bool} (hn : n + 2 = ps.length:=by rfl) (hn2 : n = ks.length:=by rfl)
  (hall : (backToKw pos (keywordEach kws X.env)).all (·.1.isSome) = true:=by rfl) (hks : (backToKw pos (keywordEach kws X.env)).filterMap (·.1) = ks:=by rfl)
  (hpl : ((backTo pos (starEach [] X.env)).any (·.1) || (backToKw pos (keywordEach kws X.env)).any (·.1.isNone)) = false:=by rfl)
  (ht : eval (.Call (.Attribute a m apos) [] kws pos) X.env = (do
   let ov ← eval a X.env
   standAt apos.atName
   let (f, first) ← holding [ov] (getMethod ov m pl)
   callWith pos f first (backTo pos (starEach [] X.env)) (backToKw pos (keywordEach kws X.env))):=by rfl) :
  JE T X Wx (.Call (.Attribute a m apos) [] kws pos) (fMet c m n [.none] g fa gk):=by
 obtain ⟨fd, h1, _, _, oc, od, osl, hl⟩:=O.ex
 obtain ⟨fd', hb, oc', od', osl', hl'⟩:=hB
 rw [hl] at hl'
 cases hl'
 obtain ⟨t, a1, s1⟩:=ho
 obtain ⟨u, a2, s2⟩:=hk
 have z:=pe_metK0 (g:=fun as => as ++ [.none]) (gV:=fun vs => vs ++ [.non]) a1 O.cl O.me h1 hr hf (fun s self as hI hlen => hb s self as hI (by
  rw [List.length_cons, List.length_append, List.length_singleton] at hlen
  omega)) (fun r => r.append (.cons (show L2.RelV .non .none from rfl) .nil)) (fun σ => passAt tk σ) a2 hall hks hpl ht
 rw [metK_Q] at z
 exact ⟨_, z, semE_met (dvs:=[.non]) hT rfl s1 s2 (by
  rw [List.length_singleton]
  exact hn)⟩
end
end Vz
namespace K43
open PySem PySem.Spec PyProof.Rows L2 Vz
def fs0_Editor : List (Str × List D):=[("own_states", [.tup .nod [.tup .nod [], .tup .nod [], .tup .nod []]]), ("own_journal", [])]
def B_steps_of (c_anchors_of : List W → Sto → R W) : FS:=(sSeq (sSet 2 (fApp 2 c_anchors_of (aCons (fVar 0) (aCons (fVar 1) aNil)))) (sRet (fFrz (lComp (iSeq (fVar 1)) [3] (cName 3) fYes (fTup (aCons (fVar 3) (aCons (fBin ixD (fVar 2) (fIndex (fVar 0) (aCons (fVar 3) aNil))) aNil)))))))
def b_steps_of : FS:=B_steps_of F_anchors_of
def F_steps_of : List W → Sto → R W:=runF 4 false b_steps_of
def b_Editor___eq__ : FS:=(sSeq (sIf (fNot (fB (fIsI "Editor" (fVar 1)))) (sRet (fC (.bool false))) sNil) (sRet (fBin eqD (fBin ixD (fFld "Editor" "own_states" (fVar 0)) (fNeg (fC (.int 1)))) (fBin ixD (fFld "Editor" "own_states" (fVar 1)) (fNeg (fC (.int 1)))))))
def F_Editor___eq__ : List W → Sto → R W:=runF 2 false b_Editor___eq__
def b__law_classes : FS:=(sSeq (sSet 1 (fFrz (lDisp (aCons (fIsX LX (fun x => x == "BadLine") (fVar 0)) (aCons (fIsX LX (fun x => x == "BadText") (fVar 0)) (aCons (fIsX LX (fun x => x == "Duplicate") (fVar 0)) aNil)))))) (sSeq (sSet 1 (fBin addD (fVar 1) (fFrz (lDisp (aCons (fIsX LX (fun x => x == "Full") (fVar 0)) aNil))))) (sSeq (sSet 1 (fBin addD (fVar 1) (fFrz (lDisp (aCons (fIsX LX (fun x => x == "Impossible") (fVar 0)) (aCons (fIsX LX (fun x => x == "Misfit") (fVar 0)) (aCons (fIsX LX (fun x => x == "Missing") (fVar 0)) aNil))))))) (sSeq (sSet 1 (fBin addD (fVar 1) (fFrz (lDisp (aCons (fIsX LX (fun x => x == "NoItem") (fVar 0)) (aCons (fIsX LX (fun x => x == "NoOrder") (fVar 0)) (aCons (fIsX LX (fun x => x == "NoState") (fVar 0)) aNil))))))) (sSeq (sSet 1 (fBin addD (fVar 1) (fFrz (lDisp (aCons (fIsX LX (fun x => x == "NotLast") (fVar 0)) (aCons (fIsX LX (fun x => x == "NoWay") (fVar 0)) (aCons (fIsX LX (fun x => x == "TooMany") (fVar 0)) aNil))))))) (sRet (fCount (fVar 1) (aCons (fC (.bool true)) aNil))))))))
def F__law_classes : List W → Sto → R W:=runF 2 false b__law_classes
def b__law_base : FS:=(sSeq (sSet 1 (fCell (lDisp (aCons (fIsX LX (fun x => tbP x "ValueError") (fVar 0)) (aCons (fIsX LX (fun x => tbP x "LookupError") (fVar 0)) (aCons (fIsX LX (fun x => tbP x "RuntimeError") (fVar 0)) aNil)))))) (sSeq (sExpr (fMeth mAppend (fVar 1) (aCons (fIsX LX (fun x => tbP x "OverflowError") (fVar 0)) aNil))) (sSeq (sSet 2 (fIsX LX (fun x => (["KeyError", "IndexError", "ZeroDivisionError", "NotImplementedError"] : List String).any (tbP x)) (fVar 0))) (sRet (fIf (fAnd (fB (fBin eqD (fCount (fVar 1) (aCons (fC (.bool true)) aNil)) (fC (.int 1)))) (fNot (fB (fVar 2)))) (fIndex (fVar 1) (aCons (fC (.bool true)) aNil)) (fC .none))))))
def F__law_base : List W → Sto → R W:=runF 3 false b__law_base
def B__law_errors_right (c__law_classes c__law_base c__law_equal : List W → Sto → R W) : FS:=(sSeq (sSet 1 (fDispX (aCons (fMkX "Duplicate" "item" (aCons (fVar 0) aNil)) (aCons (fMkX "Misfit" "place" (aCons (fVar 0) aNil)) (aCons (fMkX "NotLast" "item" (aCons (fVar 0) aNil)) (aCons (fMkX "BadText" "entry" (aCons (fVar 0) aNil)) aNil)))))) (sSeq (sSet 1 (fCatX (fVar 1) (fDispX (aCons (fMkX "BadLine" "line" (aCons (fVar 0) aNil)) (aCons (fMkX "Missing" "anchor" (aCons (fVar 0) aNil)) aNil))))) (sSeq (sSet 1 (fCatX (fVar 1) (fDispX (aCons (fMkX "NoItem" "item" (aCons (fVar 0) aNil)) (aCons (fMkX "NoOrder" "number" (aCons (fVar 0) aNil)) (aCons (fMkX "NoState" "many" (aCons (fVar 0) aNil)) (aCons (fMkX "NoWay" "place" (aCons (fVar 0) aNil)) (aCons (fMkX "TooMany" "many" (aCons (fVar 0) aNil)) (aCons (fMkX "Full" "many" (aCons (fVar 0) aNil)) aNil))))))))) (sSeq (sSet 2 (fDispX (aCons (fMkX "Duplicate" "item" (aCons (fVar 0) aNil)) (aCons (fMkX "Misfit" "place" (aCons (fVar 0) aNil)) (aCons (fMkX "NotLast" "item" (aCons (fVar 0) aNil)) aNil))))) (sSeq (sSet 2 (fCatX (fVar 2) (fDispX (aCons (fMkX "BadText" "entry" (aCons (fVar 0) aNil)) aNil)))) (sSeq (sSet 2 (fCatX (fVar 2) (fDispX (aCons (fMkX "BadLine" "line" (aCons (fVar 0) aNil)) (aCons (fMkX "Missing" "anchor" (aCons (fVar 0) aNil)) (aCons (fMkX "NoItem" "item" (aCons (fVar 0) aNil)) (aCons (fMkX "NoOrder" "number" (aCons (fVar 0) aNil)) aNil))))))) (sSeq (sSet 2 (fCatX (fVar 2) (fDispX (aCons (fMkX "NoState" "many" (aCons (fVar 0) aNil)) (aCons (fMkX "NoWay" "place" (aCons (fVar 0) aNil)) (aCons (fMkX "TooMany" "many" (aCons (fVar 0) aNil)) (aCons (fMkX "Full" "many" (aCons (fVar 0) aNil)) aNil))))))) (sSeq (sForW (aCons (fVar 1) (aCons (fVar 2) aNil)) (oName 3) (sSeq (sSet 4 (fFrz (lDisp (aCons (fXf LX "item" (fIxX (fVar 3) (fC (.int 0)))) (aCons (fXf LX "place" (fIxX (fVar 3) (fC (.int 1)))) (aCons (fXf LX "item" (fIxX (fVar 3) (fC (.int 2)))) (aCons (fXf LX "entry" (fIxX (fVar 3) (fC (.int 3)))) (aCons (fXf LX "line" (fIxX (fVar 3) (fC (.int 4)))) (aCons (fXf LX "anchor" (fIxX (fVar 3) (fC (.int 5)))) aNil))))))))) (sSeq (sSet 4 (fBin addD (fVar 4) (fFrz (lDisp (aCons (fXf LX "item" (fIxX (fVar 3) (fC (.int 6)))) (aCons (fXf LX "number" (fIxX (fVar 3) (fC (.int 7)))) (aCons (fXf LX "many" (fIxX (fVar 3) (fC (.int 8)))) (aCons (fXf LX "place" (fIxX (fVar 3) (fC (.int 9)))) (aCons (fXf LX "many" (fIxX (fVar 3) (fC (.int 10)))) (aCons (fXf LX "many" (fIxX (fVar 3) (fC (.int 11)))) aNil)))))))))) (sSeq (sIf (fOr (fNot (fB (fApp 2 c__law_equal (aCons (fVar 4) (aCons (fBin mulD (fFrz (lDisp (aCons (fVar 0) aNil))) (fC (.int 12))) aNil))))) (fB (fBin neD (fFrz (lCompX (fVar 3) 5 [5] (fApp 1 c__law_classes (aCons (fVar 5) aNil)))) (fBin mulD (fFrz (lDisp (aCons (fC (.int 1)) aNil))) (fC (.int 12)))))) (sRet (fC (.bool false))) sNil) (sIf (fB (fBin neD (fFrz (lCompX (fVar 3) 5 [5] (fApp 1 c__law_base (aCons (fVar 5) aNil)))) (fBin addD (fBin addD (fBin addD (fBin mulD (fFrz (lDisp (aCons (fC (.int 0)) aNil))) (fC (.int 5))) (fBin mulD (fFrz (lDisp (aCons (fC (.int 1)) aNil))) (fC (.int 4)))) (fFrz (lDisp (aCons (fC (.int 2)) aNil)))) (fBin mulD (fFrz (lDisp (aCons (fC (.int 3)) aNil))) (fC (.int 2)))))) (sRet (fC (.bool false))) sNil))))) (sRet (fBin eqD (fFrz (lDisp (aCons (fApp 1 c__law_classes (aCons (fMkX0 "Impossible") aNil)) (aCons (fApp 1 c__law_base (aCons (fMkX0 "Impossible") aNil)) aNil)))) (fFrz (lDisp (aCons (fC (.int 1)) (aCons (fC (.int 0)) aNil))))))))))))))
def b__law_errors_right : FS:=B__law_errors_right F__law_classes F__law_base (F__law_equal 8)
def F__law_errors_right : List W → Sto → R W:=runF 6 false b__law_errors_right
def B_Editor_as_of (c_Editor_operations : List W → Sto → R W) : FS:=(sSeq (sIf (fNot (fB (fChain leI leI (fC (.int 0)) (fVar 1) (fMet "Editor" "operations" 0 [] c_Editor_operations (fVar 0) aNil)))) (sRaise1 "NoState" "many" (aCons (fVar 1) aNil)) sNil) (sSeq (sMkSet 2 "Editor" "own_states" fs0_Editor (lSl (fFld "Editor" "own_states" (fVar 0)) fNo (fYesI (fBin addD (fVar 1) (fC (.int 1)))))) (sRet (fVar 2))))
def b_Editor_as_of : FS:=B_Editor_as_of F_Editor_operations
def F_Editor_as_of : List W → Sto → R W:=runF 3 false b_Editor_as_of
def B__law_holds (c_count_after c_Editor_insert_one c_Editor_insert_all c_Editor_forget c_Editor_listed c_next_items c_steps_of c_shows_order c_shows_wrong c_shows_crossing c__law_equal c_Editor___eq__ c__law_errors_right c_Editor_as_of c__law_draw : List W → Sto → R W) : FS:=(sSeq (sAsg (fTup (aCons (fTup (aCons (fC (.int 3)) (aCons (fC (.int 1)) (aCons (fC (.int 4)) (aCons (fC (.int 2)) aNil))))) (aCons (fTup (aCons (fC .none) (aCons (fC .none) (aCons (fC (.int 1)) (aCons (fC (.int 1)) aNil))))) aNil))) (oTup 2 (onCons (oName 5) (onCons (oName 6) onNil)))) (sSeq (sSet 1 (fFrz (lDisp (aCons (fAppK 3 [2, 1, 0] c_count_after (aCons (fTup (aCons (fC (.int 1)) aNil)) (aCons (fVar 6) (aCons (fVar 5) aNil)))) aNil)))) (sSeq (sSet 1 (fBin addD (fVar 1) (fFrz (lDisp (aCons (fAppK 3 [2, 1, 0] c_next_items (aCons (fTup (aCons (fC (.int 1)) aNil)) (aCons (fVar 6) (aCons (fVar 5) aNil)))) aNil))))) (sSeq (sSet 1 (fBin addD (fVar 1) (fFrz (lDisp (aCons (fAppK 2 [1, 0] c_steps_of (aCons (fTup (aCons (fC (.int 1)) (aCons (fC (.int 2)) (aCons (fC (.int 3)) (aCons (fC (.int 4)) aNil))))) (aCons (fVar 5) aNil))) aNil))))) (sSeq (sSet 1 (fBin addD (fVar 1) (fFrz (lDisp (aCons (fAppK 3 [2, 1, 0] c_shows_order (aCons (fTup (aCons (fC (.int 1)) (aCons (fC (.int 2)) (aCons (fC (.int 3)) (aCons (fC (.int 4)) aNil))))) (aCons (fVar 6) (aCons (fVar 5) aNil)))) aNil))))) (sSeq (sSet 1 (fBin addD (fVar 1) (fFrz (lDisp (aCons (fAppK 3 [2, 1, 0] c_shows_wrong (aCons (fC (.int 3)) (aCons (fVar 6) (aCons (fVar 5) aNil)))) aNil))))) (sSeq (sSet 1 (fBin addD (fVar 1) (fFrz (lDisp (aCons (fAppK 3 [2, 1, 0] c_shows_crossing (aCons (fTup (aCons (fC (.int 2)) (aCons (fC (.int 4)) aNil))) (aCons (fVar 6) (aCons (fVar 5) aNil)))) aNil))))) (sSeq (sSet 2 (fFrz (lDisp (aCons (fC (.int 3)) (aCons (fFrz (lDisp (aCons (fC (.int 2)) (aCons (fC (.int 3)) aNil)))) (aCons (fFrz (lDisp (aCons (fTup (aCons (fC (.int 1)) (aCons (fC .none) aNil))) (aCons (fTup (aCons (fC (.int 2)) (aCons (fC (.int 1)) aNil))) (aCons (fTup (aCons (fC (.int 3)) (aCons (fC .none) aNil))) (aCons (fTup (aCons (fC (.int 4)) (aCons (fC (.int 1)) aNil))) aNil)))))) (aCons (fC (.bool true)) (aCons (fC (.bool false)) (aCons (fC (.bool false)) aNil))))))))) (sSeq (sIf (fOr (fNot (fB (fApp 2 c__law_equal (aCons (fVar 1) (aCons (fVar 2) aNil))))) (fB (fBin neD (fC (.int 300)) (fC (.int 300))))) (sRet (fC (.bool false))) sNil) (sSeq (sPar 7 8 (aCons (fMk "Editor" fs0_Editor) (aCons (fMk "Editor" fs0_Editor) aNil))) (sSeq (sSet 3 (fFrz (lDisp (aCons (fMet "Editor" "insert_one" 1 [.none] c_Editor_insert_one (fVar 7) (aCons (fC (.int 1)) aNil)) (aCons (fMet "Editor" "insert_one" 2 [] c_Editor_insert_one (fVar 7) (aCons (fC (.int 2)) (aCons (fC (.int 1)) aNil))) (aCons (fMet "Editor" "insert_all" 1 [] c_Editor_insert_all (fVar 7) (aCons (fFrz (lDisp (aCons (fTup (aCons (fC (.int 3)) (aCons (fC .none) aNil))) aNil))) aNil)) (aCons (fMet "Editor" "forget" 1 [] c_Editor_forget (fVar 7) (aCons (fC (.int 2)) aNil)) aNil))))))) (sSeq (sSet 3 (fBin addD (fVar 3) (fFrz (lDisp (aCons (fMet "Editor" "listed" 0 [] c_Editor_listed (fMet "Editor" "as_of" 1 [] c_Editor_as_of (fVar 7) (aCons (fC (.int 2)) aNil)) aNil) aNil))))) (sSeq (sSet 4 (fCell (lDisp (aCons (fMet "Editor" "insert_one" 1 [.none] c_Editor_insert_one (fVar 8) (aCons (fC (.int 1)) aNil)) (aCons (fMetK "Editor" "insert_one" 0 [1, 0] c_Editor_insert_one (fVar 8) aNil (aCons (fC (.int 1)) (aCons (fC (.int 2)) aNil))) (aCons (fMetK "Editor" "insert_all" 0 [0] c_Editor_insert_all (fVar 8) aNil (aCons (fFrz (lDisp (aCons (fTup (aCons (fC (.int 3)) (aCons (fC .none) aNil))) aNil))) aNil)) aNil)))))) (sSeq (sSet 4 (fCell (lCat (fVar 4) (fFrz (lDisp (aCons (fMetK "Editor" "forget" 0 [0] c_Editor_forget (fVar 8) aNil (aCons (fC (.int 2)) aNil)) aNil)))))) (sSeq (sExpr (fMeth mAppend (fVar 4) (aCons (fMet "Editor" "listed" 0 [] c_Editor_listed (fMetK "Editor" "as_of" 0 [0] c_Editor_as_of (fVar 8) aNil (aCons (fC (.int 2)) aNil)) aNil) aNil))) (sSeq (sIf (fOr (fNot (fB (fApp 2 c__law_equal (aCons (fVar 3) (aCons (fFz (fVar 4)) aNil))))) (fNot (fB (fEqI "Editor" c_Editor___eq__ (fVar 7) (fVar 8))))) (sRet (fC (.bool false))) sNil) (sRet (fCall allD (aCons (fFrz (lComp (iSeq (fTup (aCons (fC (.int 0)) (aCons (fC (.int 7)) (aCons (fApp 2 c__law_draw (aCons (fVar 0) (aCons (fC (.int 60)) aNil))) aNil))))) [9] (cName 9) fYes (fApp 1 c__law_errors_right (aCons (fVar 9) aNil)))) aNil)))))))))))))))))))
def b__law_holds : FS:=B__law_holds F_count_after F_Editor_insert_one F_Editor_insert_all F_Editor_forget F_Editor_listed F_next_items F_steps_of F_shows_order F_shows_wrong F_shows_crossing (F__law_equal 8) F_Editor___eq__ F__law_errors_right F_Editor_as_of (F__law_draw 3)
def F__law_holds : List W → Sto → R W:=runF 10 false b__law_holds
def B_law (c__law_holds c__law_source : List W → Sto → R W) : FS:=(sRet (fCall allD (aCons (fFrz (lComp (iArgs rng1 (aCons (fCall max2 (aCons (fC (.int 1)) (aCons (fCall min2 (aCons (fC (.int 2)) (aCons (fLenS (fVar 0)) aNil))) aNil))) aNil)) [1] (cName 1) fYes (fApp 1 c__law_holds (aCons (fApp 2 c__law_source (aCons (fVar 0) (aCons (fVar 1) aNil))) aNil)))) aNil)))
def b_law : FS:=B_law F__law_holds F__law_source
def F_law : List W → Sto → R W:=runF 2 false b_law
structure Tx (K : PySem.W.Frag) (mg : Str → Option Value) : Prop where
 g_marks_of : mg "marks_of" = some (.ref (He.ga K "marks_of"))
 g_nearest : mg "nearest" = some (.ref (He.ga K "nearest"))
 g_fits : mg "fits" = some (.ref (He.ga K "fits"))
 g_present_after : mg "present_after" = some (.ref (He.ga K "present_after"))
 g_gaps_of : mg "gaps_of" = some (.ref (He.ga K "gaps_of"))
 g_choose : mg "choose" = some (.ref (He.ga K "choose"))
 g_mixings : mg "mixings" = some (.ref (He.ga K "mixings"))
 g_count_rest : mg "count_rest" = some (.ref (He.ga K "count_rest"))
 g_can_begin : mg "can_begin" = some (.ref (He.ga K "can_begin"))
 g_gap_table : mg "gap_table" = some (.ref (He.ga K "gap_table"))
 g_count_after : mg "count_after" = some (.ref (He.ga K "count_after"))
 g_put : mg "put" = some (.ref (He.ga K "put"))
 g_grown : mg "grown" = some (.ref (He.ga K "grown"))
 g_with_anchor : mg "with_anchor" = some (.ref (He.ga K "with_anchor"))
 g_count_orders : mg "count_orders" = some (.ref (He.ga K "count_orders"))
 g_next_places : mg "next_places" = some (.ref (He.ga K "next_places"))
 g_sorted_next : mg "sorted_next" = some (.ref (He.ga K "sorted_next"))
 g_next_items : mg "next_items" = some (.ref (He.ga K "next_items"))
 g_anchors_of : mg "anchors_of" = some (.ref (He.ga K "anchors_of"))
 g_steps_of : mg "steps_of" = some (.ref (He.ga K "steps_of"))
 g_is_integer : mg "is_integer" = some (.ref (He.ga K "is_integer"))
 g_is_order : mg "is_order" = some (.ref (He.ga K "is_order"))
 g_shows_order : mg "shows_order" = some (.ref (He.ga K "shows_order"))
 g_is_wrong : mg "is_wrong" = some (.ref (He.ga K "is_wrong"))
 g_shows_wrong : mg "shows_wrong" = some (.ref (He.ga K "shows_wrong"))
 g_do_cross : mg "do_cross" = some (.ref (He.ga K "do_cross"))
 g_shows_crossing : mg "shows_crossing" = some (.ref (He.ga K "shows_crossing"))
 g__law_equal : mg "_law_equal" = some (.ref (He.ga K "_law_equal"))
 g__law_classes : mg "_law_classes" = some (.ref (He.ga K "_law_classes"))
 g__law_base : mg "_law_base" = some (.ref (He.ga K "_law_base"))
 g__law_errors_right : mg "_law_errors_right" = some (.ref (He.ga K "_law_errors_right"))
 g__law_draw : mg "_law_draw" = some (.ref (He.ga K "_law_draw"))
 g__law_holds : mg "_law_holds" = some (.ref (He.ga K "_law_holds"))
 g__law_source : mg "_law_source" = some (.ref (He.ga K "_law_source"))
 g_law : mg "law" = some (.ref (He.ga K "law"))
 g_Editor : mg "Editor" = some (.ref (He.ga K "Editor"))
 g_Duplicate : mg "Duplicate" = some (.ref (He.ga K "Duplicate"))
 g_Misfit : mg "Misfit" = some (.ref (He.ga K "Misfit"))
 g_Impossible : mg "Impossible" = some (.ref (He.ga K "Impossible"))
 g_NotLast : mg "NotLast" = some (.ref (He.ga K "NotLast"))
 g_BadText : mg "BadText" = some (.ref (He.ga K "BadText"))
 g_BadLine : mg "BadLine" = some (.ref (He.ga K "BadLine"))
 g_Missing : mg "Missing" = some (.ref (He.ga K "Missing"))
 g_NoItem : mg "NoItem" = some (.ref (He.ga K "NoItem"))
 g_NoOrder : mg "NoOrder" = some (.ref (He.ga K "NoOrder"))
 g_NoState : mg "NoState" = some (.ref (He.ga K "NoState"))
 g_NoWay : mg "NoWay" = some (.ref (He.ga K "NoWay"))
 g_TooMany : mg "TooMany" = some (.ref (He.ga K "TooMany"))
 g_Full : mg "Full" = some (.ref (He.ga K "Full"))
 n_IndexError : mg "IndexError" = none
 n_KeyError : mg "KeyError" = none
 n_LookupError : mg "LookupError" = none
 n_NotImplementedError : mg "NotImplementedError" = none
 n_OverflowError : mg "OverflowError" = none
 n_RuntimeError : mg "RuntimeError" = none
 n_ValueError : mg "ValueError" = none
 n_ZeroDivisionError : mg "ZeroDivisionError" = none
 n_abs : mg "abs" = none
 n_all : mg "all" = none
 n_bool : mg "bool" = none
 n_enumerate : mg "enumerate" = none
 n_int : mg "int" = none
 n_isinstance : mg "isinstance" = none
 n_len : mg "len" = none
 n_list : mg "list" = none
 n_max : mg "max" = none
 n_min : mg "min" = none
 n_range : mg "range" = none
 n_sorted : mg "sorted" = none
 n_str : mg "str" = none
 n_sum : mg "sum" = none
 n_tuple : mg "tuple" = none
 n_zip : mg "zip" = none
 v_UNKNOWN : ∃ t, mg "UNKNOWN" = some (.str "?" t)
 v_MOST_LISTED : ∃ t, mg "MOST_LISTED" = some (.int 300 t)
 v_BEGIN : ∃ t, mg "BEGIN" = some (.str "begin" t)
 v_END : ∃ t, mg "END" = some (.str "end" t)
 v_MOST_ITEMS : ∃ t, mg "MOST_ITEMS" = some (.int 12 t)
 v_PAIR : ∃ t, mg "PAIR" = some (.int 2 t)
 cls_Editor : Cls K (He.ga K "Editor")
 mk_Editor : Mk K (He.ga K "Editor") (He.ma K (He.ga K "Editor") "__init__")
 no_Editor_own_states : NoAttr K (He.ga K "Editor") "own_states"
 no_Editor_own_journal : NoAttr K (He.ga K "Editor") "own_journal"
 m_Editor_insert_one : Meth K (He.ga K "Editor") "insert_one" (He.ma K (He.ga K "Editor") "insert_one")
 m_Editor_insert_all : Meth K (He.ga K "Editor") "insert_all" (He.ma K (He.ga K "Editor") "insert_all")
 m_Editor_listed : Meth K (He.ga K "Editor") "listed" (He.ma K (He.ga K "Editor") "listed")
 m_Editor_anchors : Meth K (He.ga K "Editor") "anchors" (He.ma K (He.ga K "Editor") "anchors")
 m_Editor_count : Meth K (He.ga K "Editor") "count" (He.ma K (He.ga K "Editor") "count")
 m_Editor_order : Meth K (He.ga K "Editor") "order" (He.ma K (He.ga K "Editor") "order")
 m_Editor_forget : Meth K (He.ga K "Editor") "forget" (He.ma K (He.ga K "Editor") "forget")
 m_Editor___eq__ : Meth K (He.ga K "Editor") "__eq__" (He.ma K (He.ga K "Editor") "__eq__")
 m_Editor_operations : Meth K (He.ga K "Editor") "operations" (He.ma K (He.ga K "Editor") "operations")
 m_Editor_as_of : Meth K (He.ga K "Editor") "as_of" (He.ma K (He.ga K "Editor") "as_of")
 d_marks_of : ∃ fd, FunD K "marks_of" "marks_of" (defArgs s_marks_of) (defBody s_marks_of) (defScope s_marks_of) [] [] (He.ga K "marks_of") fd
 d_nearest : ∃ fd, FunD K "nearest" "nearest" (defArgs s_nearest) (defBody s_nearest) (defScope s_nearest) [] [] (He.ga K "nearest") fd
 d_fits : ∃ fd, FunD K "fits" "fits" (defArgs s_fits) (defBody s_fits) (defScope s_fits) [] [] (He.ga K "fits") fd
 d_present_after : ∃ fd, FunD K "present_after" "present_after" (defArgs s_present_after) (defBody s_present_after) (defScope s_present_after) [] [] (He.ga K "present_after") fd
 d_gaps_of : ∃ fd, FunD K "gaps_of" "gaps_of" (defArgs s_gaps_of) (defBody s_gaps_of) (defScope s_gaps_of) [] [] (He.ga K "gaps_of") fd
 d_choose : ∃ fd, FunD K "choose" "choose" (defArgs s_choose) (defBody s_choose) (defScope s_choose) [] [] (He.ga K "choose") fd
 d_mixings : ∃ fd, FunD K "mixings" "mixings" (defArgs s_mixings) (defBody s_mixings) (defScope s_mixings) [] [] (He.ga K "mixings") fd
 d_count_rest : ∃ fd, FunD K "count_rest" "count_rest" (defArgs s_count_rest) (defBody s_count_rest) (defScope s_count_rest) [] [] (He.ga K "count_rest") fd
 d_can_begin : ∃ fd, FunD K "can_begin" "can_begin" (defArgs s_can_begin) (defBody s_can_begin) (defScope s_can_begin) [] [] (He.ga K "can_begin") fd
 d_gap_table : ∃ fd, FunD K "gap_table" "gap_table" (defArgs s_gap_table) (defBody s_gap_table) (defScope s_gap_table) [] [] (He.ga K "gap_table") fd
 d_count_after : ∃ fd, FunD K "count_after" "count_after" (defArgs s_count_after) (defBody s_count_after) (defScope s_count_after) [] [] (He.ga K "count_after") fd
 d_put : ∃ fd, FunD K "put" "put" (defArgs s_put) (defBody s_put) (defScope s_put) [] [] (He.ga K "put") fd
 d_grown : ∃ fd, FunD K "grown" "grown" (defArgs s_grown) (defBody s_grown) (defScope s_grown) [] [] (He.ga K "grown") fd
 d_with_anchor : ∃ fd, FunD K "with_anchor" "with_anchor" (defArgs s_with_anchor) (defBody s_with_anchor) (defScope s_with_anchor) [] [] (He.ga K "with_anchor") fd
 d_count_orders : ∃ fd, FunD K "count_orders" "count_orders" (defArgs s_count_orders) (defBody s_count_orders) (defScope s_count_orders) [] [] (He.ga K "count_orders") fd
 d_next_places : ∃ fd, FunD K "next_places" "next_places" (defArgs s_next_places) (defBody s_next_places) (defScope s_next_places) [] [] (He.ga K "next_places") fd
 d_sorted_next : ∃ fd, FunD K "sorted_next" "sorted_next" (defArgs s_sorted_next) (defBody s_sorted_next) (defScope s_sorted_next) [] [] (He.ga K "sorted_next") fd
 d_next_items : ∃ fd, FunD K "next_items" "next_items" (defArgs s_next_items) (defBody s_next_items) (defScope s_next_items) [] [] (He.ga K "next_items") fd
 d_anchors_of : ∃ fd, FunD K "anchors_of" "anchors_of" (defArgs s_anchors_of) (defBody s_anchors_of) (defScope s_anchors_of) [] [] (He.ga K "anchors_of") fd
 d_steps_of : ∃ fd, FunD K "steps_of" "steps_of" (defArgs s_steps_of) (defBody s_steps_of) (defScope s_steps_of) [] [] (He.ga K "steps_of") fd
 d_is_integer : ∃ fd, FunD K "is_integer" "is_integer" (defArgs s_is_integer) (defBody s_is_integer) (defScope s_is_integer) [] [] (He.ga K "is_integer") fd
 d_is_order : ∃ fd, FunD K "is_order" "is_order" (defArgs s_is_order) (defBody s_is_order) (defScope s_is_order) [] [] (He.ga K "is_order") fd
 d_shows_order : ∃ fd, FunD K "shows_order" "shows_order" (defArgs s_shows_order) (defBody s_shows_order) (defScope s_shows_order) [] [] (He.ga K "shows_order") fd
 d_is_wrong : ∃ fd, FunD K "is_wrong" "is_wrong" (defArgs s_is_wrong) (defBody s_is_wrong) (defScope s_is_wrong) [] [] (He.ga K "is_wrong") fd
 d_shows_wrong : ∃ fd, FunD K "shows_wrong" "shows_wrong" (defArgs s_shows_wrong) (defBody s_shows_wrong) (defScope s_shows_wrong) [] [] (He.ga K "shows_wrong") fd
 d_do_cross : ∃ fd, FunD K "do_cross" "do_cross" (defArgs s_do_cross) (defBody s_do_cross) (defScope s_do_cross) [] [] (He.ga K "do_cross") fd
 d_shows_crossing : ∃ fd, FunD K "shows_crossing" "shows_crossing" (defArgs s_shows_crossing) (defBody s_shows_crossing) (defScope s_shows_crossing) [] [] (He.ga K "shows_crossing") fd
 d__law_equal : ∃ fd, FunD K "_law_equal" "_law_equal" (defArgs s__law_equal) (defBody s__law_equal) (defScope s__law_equal) [] [] (He.ga K "_law_equal") fd
 d__law_classes : ∃ fd, FunD K "_law_classes" "_law_classes" (defArgs s__law_classes) (defBody s__law_classes) (defScope s__law_classes) [] [] (He.ga K "_law_classes") fd
 d__law_base : ∃ fd, FunD K "_law_base" "_law_base" (defArgs s__law_base) (defBody s__law_base) (defScope s__law_base) [] [] (He.ga K "_law_base") fd
 d__law_errors_right : ∃ fd, FunD K "_law_errors_right" "_law_errors_right" (defArgs s__law_errors_right) (defBody s__law_errors_right) (defScope s__law_errors_right) [] [] (He.ga K "_law_errors_right") fd
 d__law_draw : ∃ fd, FunD K "_law_draw" "_law_draw" (defArgs s__law_draw) (defBody s__law_draw) (defScope s__law_draw) [] [] (He.ga K "_law_draw") fd
 d__law_holds : ∃ fd, FunD K "_law_holds" "_law_holds" (defArgs s__law_holds) (defBody s__law_holds) (defScope s__law_holds) [] [] (He.ga K "_law_holds") fd
 d__law_source : ∃ fd, FunD K "_law_source" "_law_source" (defArgs s__law_source) (defBody s__law_source) (defScope s__law_source) [] [] (He.ga K "_law_source") fd
 d_law : ∃ fd, FunD K "law" "law" (defArgs s_law) (defBody s_law) (defScope s_law) [] [] (He.ga K "law") fd
 d_Editor_insert_one : ∃ fd, FunD K "insert_one" "Editor.insert_one" (defArgs s_Editor_insert_one) (defBody s_Editor_insert_one) (defScope s_Editor_insert_one) [.non] [] (He.ma K (He.ga K "Editor") "insert_one") fd
 d_Editor_insert_all : ∃ fd, FunD K "insert_all" "Editor.insert_all" (defArgs s_Editor_insert_all) (defBody s_Editor_insert_all) (defScope s_Editor_insert_all) [] [] (He.ma K (He.ga K "Editor") "insert_all") fd
 d_Editor_listed : ∃ fd, FunD K "listed" "Editor.listed" (defArgs s_Editor_listed) (defBody s_Editor_listed) (defScope s_Editor_listed) [] [] (He.ma K (He.ga K "Editor") "listed") fd
 d_Editor_anchors : ∃ fd, FunD K "anchors" "Editor.anchors" (defArgs s_Editor_anchors) (defBody s_Editor_anchors) (defScope s_Editor_anchors) [] [] (He.ma K (He.ga K "Editor") "anchors") fd
 d_Editor_count : ∃ fd, FunD K "count" "Editor.count" (defArgs s_Editor_count) (defBody s_Editor_count) (defScope s_Editor_count) [] [] (He.ma K (He.ga K "Editor") "count") fd
 d_Editor_order : ∃ fd, FunD K "order" "Editor.order" (defArgs s_Editor_order) (defBody s_Editor_order) (defScope s_Editor_order) [] [] (He.ma K (He.ga K "Editor") "order") fd
 d_Editor_forget : ∃ fd, FunD K "forget" "Editor.forget" (defArgs s_Editor_forget) (defBody s_Editor_forget) (defScope s_Editor_forget) [] [] (He.ma K (He.ga K "Editor") "forget") fd
 d_Editor___eq__ : ∃ fd, FunD K "__eq__" "Editor.__eq__" (defArgs s_Editor___eq__) (defBody s_Editor___eq__) (defScope s_Editor___eq__) [] [] (He.ma K (He.ga K "Editor") "__eq__") fd
 d_Editor_operations : ∃ fd, FunD K "operations" "Editor.operations" (defArgs s_Editor_operations) (defBody s_Editor_operations) (defScope s_Editor_operations) [] [] (He.ma K (He.ga K "Editor") "operations") fd
 d_Editor_as_of : ∃ fd, FunD K "as_of" "Editor.as_of" (defArgs s_Editor_as_of) (defBody s_Editor_as_of) (defScope s_Editor_as_of) [] [] (He.ma K (He.ga K "Editor") "as_of") fd
 d_Editor___init__ : ∃ fd, FunD K "__init__" "Editor.__init__" (defArgs s_Editor___init__) (defBody s_Editor___init__) (defScope s_Editor___init__) [] [] (He.ma K (He.ga K "Editor") "__init__") fd
 d_Duplicate : ∃ fd, FunD K "__init__" "Duplicate.__init__" (defArgs s_Duplicate) (defBody s_Duplicate) (defScope s_Duplicate) [] [] (He.ma K (He.ga K "Duplicate") "__init__") fd
 d_Misfit : ∃ fd, FunD K "__init__" "Misfit.__init__" (defArgs s_Misfit) (defBody s_Misfit) (defScope s_Misfit) [] [] (He.ma K (He.ga K "Misfit") "__init__") fd
 d_Impossible : ∃ fd, FunD K "__init__" "Impossible.__init__" (defArgs s_Impossible) (defBody s_Impossible) (defScope s_Impossible) [] [] (He.ma K (He.ga K "Impossible") "__init__") fd
 d_NotLast : ∃ fd, FunD K "__init__" "NotLast.__init__" (defArgs s_NotLast) (defBody s_NotLast) (defScope s_NotLast) [] [] (He.ma K (He.ga K "NotLast") "__init__") fd
 d_BadText : ∃ fd, FunD K "__init__" "BadText.__init__" (defArgs s_BadText) (defBody s_BadText) (defScope s_BadText) [] [] (He.ma K (He.ga K "BadText") "__init__") fd
 d_BadLine : ∃ fd, FunD K "__init__" "BadLine.__init__" (defArgs s_BadLine) (defBody s_BadLine) (defScope s_BadLine) [] [] (He.ma K (He.ga K "BadLine") "__init__") fd
 d_Missing : ∃ fd, FunD K "__init__" "Missing.__init__" (defArgs s_Missing) (defBody s_Missing) (defScope s_Missing) [] [] (He.ma K (He.ga K "Missing") "__init__") fd
 d_NoItem : ∃ fd, FunD K "__init__" "NoItem.__init__" (defArgs s_NoItem) (defBody s_NoItem) (defScope s_NoItem) [] [] (He.ma K (He.ga K "NoItem") "__init__") fd
 d_NoOrder : ∃ fd, FunD K "__init__" "NoOrder.__init__" (defArgs s_NoOrder) (defBody s_NoOrder) (defScope s_NoOrder) [] [] (He.ma K (He.ga K "NoOrder") "__init__") fd
 d_NoState : ∃ fd, FunD K "__init__" "NoState.__init__" (defArgs s_NoState) (defBody s_NoState) (defScope s_NoState) [] [] (He.ma K (He.ga K "NoState") "__init__") fd
 d_NoWay : ∃ fd, FunD K "__init__" "NoWay.__init__" (defArgs s_NoWay) (defBody s_NoWay) (defScope s_NoWay) [] [] (He.ma K (He.ga K "NoWay") "__init__") fd
 d_TooMany : ∃ fd, FunD K "__init__" "TooMany.__init__" (defArgs s_TooMany) (defBody s_TooMany) (defScope s_TooMany) [] [] (He.ma K (He.ga K "TooMany") "__init__") fd
 d_Full : ∃ fd, FunD K "__init__" "Full.__init__" (defArgs s_Full) (defBody s_Full) (defScope s_Full) [] [] (He.ma K (He.ga K "Full") "__init__") fd
 x_Duplicate : XcSays K ⟨"Duplicate", "ValueError.__new__", bmV, flX⟩
 x_Misfit : XcSays K ⟨"Misfit", "ValueError.__new__", bmV, flX⟩
 x_Impossible : XcSays K ⟨"Impossible", "ValueError.__new__", bmV, flX⟩
 x_NotLast : XcSays K ⟨"NotLast", "ValueError.__new__", bmV, flX⟩
 x_BadText : XcSays K ⟨"BadText", "ValueError.__new__", bmV, flX⟩
 x_BadLine : XcSays K ⟨"BadLine", "ValueError.__new__", bmV, flX⟩
 x_Missing : XcSays K ⟨"Missing", "LookupError.__new__", bmL, flX⟩
 x_NoItem : XcSays K ⟨"NoItem", "LookupError.__new__", bmL, flX⟩
 x_NoOrder : XcSays K ⟨"NoOrder", "LookupError.__new__", bmL, flX⟩
 x_NoState : XcSays K ⟨"NoState", "LookupError.__new__", bmL, flX⟩
 x_NoWay : XcSays K ⟨"NoWay", "RuntimeError.__new__", bmR, flX⟩
 x_TooMany : XcSays K ⟨"TooMany", "OverflowError.__new__", bmO, flX⟩
 x_Full : XcSays K ⟨"Full", "OverflowError.__new__", bmO, flX⟩
 ext : ExT K LX BX tbP flX
 ins_Editor : InsT K "Editor"
section
variable {P : Program} {w : World} {K : PySem.W.Frag} {mg : Str → Option Value} {base : Heap}
theorem Tx.ic_Editor (t : Tx K mg) : InC K "Editor" ["own_states", "own_journal"] []:=by
 refine ⟨t.cls_Editor, fun f hf => ?_, fun m hm => nomatch hm⟩
 rcases List.mem_cons.mp hf with rfl | hf
 ·exact t.no_Editor_own_states
 rcases List.mem_cons.mp hf with rfl | hf
 ·exact t.no_Editor_own_journal
 cases hf
theorem sc_Duplicate : FnScope [selfS, "item"] [selfS, "item"] (defScope s_Duplicate):=⟨rfl, rfl, rfl, by decide +kernel, rfl, by decide +kernel, by decide +kernel⟩
theorem xk_Duplicate (t : Tx K mg) : XcK P w K mg base 1 "Duplicate" "item" :=
 xc_oneK bf_V t.x_Duplicate rfl rfl rfl t.d_Duplicate t.g_Duplicate sc_Duplicate (fun _ _ _ _ _ _ us hl => match us, hl with | [_, _], _ => rfl) (t.x_Duplicate.noat _ (by decide)) (fun cdv A outer s H E => by
  refine ⟨tCons (tVar 0) (tCons (tC (.str "this item is there already")) tNil), ?_, fun a y H Q hq => ⟨_, rfl, hq _⟩⟩
  refine pss_cons ?_ (pss_one ?_)
  ·refine ps_expr ?_
   exact pe_binit (nB:="ValueError") bf_V rfl t.n_ValueError bt_V in_V rfl (pa_cons (pe_var (i:=0) rfl (.inl rfl)) (pa_cons pe_str pa_nil rfl) rfl)
  ·exact ps_os bf_V (pe_var (i:=0) rfl (.inl rfl)) (pe_var (i:=1) rfl (.inl rfl))) (fun _ _ _ _ _ _ _ _ => rfl)
theorem xc_Duplicate (t : Tx K mg) : Xc P w K mg base 1 "Duplicate" ["item"]:=(xk_Duplicate t).xc
theorem sc_Misfit : FnScope [selfS, "place"] [selfS, "place"] (defScope s_Misfit):=⟨rfl, rfl, rfl, by decide +kernel, rfl, by decide +kernel, by decide +kernel⟩
theorem xk_Misfit (t : Tx K mg) : XcK P w K mg base 1 "Misfit" "place" :=
 xc_oneK bf_V t.x_Misfit rfl rfl rfl t.d_Misfit t.g_Misfit sc_Misfit (fun _ _ _ _ _ _ us hl => match us, hl with | [_, _], _ => rfl) (t.x_Misfit.noat _ (by decide)) (fun cdv A outer s H E => by
  refine ⟨tCons (tVar 0) (tCons (tC (.str "the order does not agree here")) tNil), ?_, fun a y H Q hq => ⟨_, rfl, hq _⟩⟩
  refine pss_cons ?_ (pss_one ?_)
  ·refine ps_expr ?_
   exact pe_binit (nB:="ValueError") bf_V rfl t.n_ValueError bt_V in_V rfl (pa_cons (pe_var (i:=0) rfl (.inl rfl)) (pa_cons pe_str pa_nil rfl) rfl)
  ·exact ps_os bf_V (pe_var (i:=0) rfl (.inl rfl)) (pe_var (i:=1) rfl (.inl rfl))) (fun _ _ _ _ _ _ _ _ => rfl)
theorem xc_Misfit (t : Tx K mg) : Xc P w K mg base 1 "Misfit" ["place"]:=(xk_Misfit t).xc
theorem sc_Impossible : FnScope [selfS] [selfS] (defScope s_Impossible):=⟨rfl, rfl, rfl, by decide +kernel, rfl, by decide +kernel, by decide +kernel⟩
theorem xc_Impossible (t : Tx K mg) : Xc P w K mg base 1 "Impossible" [] :=
 xc_zero bf_V t.x_Impossible rfl rfl rfl t.d_Impossible t.g_Impossible sc_Impossible (fun _ _ _ _ _ _ us hl => match us, hl with | [_], _ => rfl) (fun cdv A outer s H E => by
  refine ⟨tCons (tVar 0) (tCons (tC (.str "no order agrees with the anchors")) tNil), ?_, fun a H Q hq => ⟨_, rfl, hq _⟩⟩
  refine pss_one ?_
  refine ps_expr ?_
  exact pe_binit (nB:="ValueError") bf_V rfl t.n_ValueError bt_V in_V rfl (pa_cons (pe_var (i:=0) rfl (.inl rfl)) (pa_cons pe_str pa_nil rfl) rfl))
theorem sc_NotLast : FnScope [selfS, "item"] [selfS, "item"] (defScope s_NotLast):=⟨rfl, rfl, rfl, by decide +kernel, rfl, by decide +kernel, by decide +kernel⟩
theorem xk_NotLast (t : Tx K mg) : XcK P w K mg base 1 "NotLast" "item" :=
 xc_oneK bf_V t.x_NotLast rfl rfl rfl t.d_NotLast t.g_NotLast sc_NotLast (fun _ _ _ _ _ _ us hl => match us, hl with | [_, _], _ => rfl) (t.x_NotLast.noat _ (by decide)) (fun cdv A outer s H E => by
  refine ⟨tCons (tVar 0) (tCons (tC (.str "this item is last in no order")) tNil), ?_, fun a y H Q hq => ⟨_, rfl, hq _⟩⟩
  refine pss_cons ?_ (pss_one ?_)
  ·refine ps_expr ?_
   exact pe_binit (nB:="ValueError") bf_V rfl t.n_ValueError bt_V in_V rfl (pa_cons (pe_var (i:=0) rfl (.inl rfl)) (pa_cons pe_str pa_nil rfl) rfl)
  ·exact ps_os bf_V (pe_var (i:=0) rfl (.inl rfl)) (pe_var (i:=1) rfl (.inl rfl))) (fun _ _ _ _ _ _ _ _ => rfl)
theorem xc_NotLast (t : Tx K mg) : Xc P w K mg base 1 "NotLast" ["item"]:=(xk_NotLast t).xc
theorem sc_BadText : FnScope [selfS, "entry"] [selfS, "entry"] (defScope s_BadText):=⟨rfl, rfl, rfl, by decide +kernel, rfl, by decide +kernel, by decide +kernel⟩
theorem xk_BadText (t : Tx K mg) : XcK P w K mg base 1 "BadText" "entry" :=
 xc_oneK bf_V t.x_BadText rfl rfl rfl t.d_BadText t.g_BadText sc_BadText (fun _ _ _ _ _ _ us hl => match us, hl with | [_, _], _ => rfl) (t.x_BadText.noat _ (by decide)) (fun cdv A outer s H E => by
  refine ⟨tCons (tVar 0) (tCons (tC (.str "an entry is not part of the text of a list")) tNil), ?_, fun a y H Q hq => ⟨_, rfl, hq _⟩⟩
  refine pss_cons ?_ (pss_one ?_)
  ·refine ps_expr ?_
   exact pe_binit (nB:="ValueError") bf_V rfl t.n_ValueError bt_V in_V rfl (pa_cons (pe_var (i:=0) rfl (.inl rfl)) (pa_cons pe_str pa_nil rfl) rfl)
  ·exact ps_os bf_V (pe_var (i:=0) rfl (.inl rfl)) (pe_var (i:=1) rfl (.inl rfl))) (fun _ _ _ _ _ _ _ _ => rfl)
theorem xc_BadText (t : Tx K mg) : Xc P w K mg base 1 "BadText" ["entry"]:=(xk_BadText t).xc
theorem sc_BadLine : FnScope [selfS, "line"] [selfS, "line"] (defScope s_BadLine):=⟨rfl, rfl, rfl, by decide +kernel, rfl, by decide +kernel, by decide +kernel⟩
theorem xk_BadLine (t : Tx K mg) : XcK P w K mg base 1 "BadLine" "line" :=
 xc_oneK bf_V t.x_BadLine rfl rfl rfl t.d_BadLine t.g_BadLine sc_BadLine (fun _ _ _ _ _ _ us hl => match us, hl with | [_, _], _ => rfl) (t.x_BadLine.noat _ (by decide)) (fun cdv A outer s H E => by
  refine ⟨tCons (tVar 0) (tCons (tC (.str "a line is not a command")) tNil), ?_, fun a y H Q hq => ⟨_, rfl, hq _⟩⟩
  refine pss_cons ?_ (pss_one ?_)
  ·refine ps_expr ?_
   exact pe_binit (nB:="ValueError") bf_V rfl t.n_ValueError bt_V in_V rfl (pa_cons (pe_var (i:=0) rfl (.inl rfl)) (pa_cons pe_str pa_nil rfl) rfl)
  ·exact ps_os bf_V (pe_var (i:=0) rfl (.inl rfl)) (pe_var (i:=1) rfl (.inl rfl))) (fun _ _ _ _ _ _ _ _ => rfl)
theorem xc_BadLine (t : Tx K mg) : Xc P w K mg base 1 "BadLine" ["line"]:=(xk_BadLine t).xc
theorem sc_Missing : FnScope [selfS, "anchor"] [selfS, "anchor"] (defScope s_Missing):=⟨rfl, rfl, rfl, by decide +kernel, rfl, by decide +kernel, by decide +kernel⟩
theorem xk_Missing (t : Tx K mg) : XcK P w K mg base 1 "Missing" "anchor" :=
 xc_oneK bf_L t.x_Missing rfl rfl rfl t.d_Missing t.g_Missing sc_Missing (fun _ _ _ _ _ _ us hl => match us, hl with | [_, _], _ => rfl) (t.x_Missing.noat _ (by decide)) (fun cdv A outer s H E => by
  refine ⟨tCons (tVar 0) (tCons (tC (.str "this anchor is not there")) tNil), ?_, fun a y H Q hq => ⟨_, rfl, hq _⟩⟩
  refine pss_cons ?_ (pss_one ?_)
  ·refine ps_expr ?_
   exact pe_binit (nB:="LookupError") bf_L rfl t.n_LookupError bt_L in_L rfl (pa_cons (pe_var (i:=0) rfl (.inl rfl)) (pa_cons pe_str pa_nil rfl) rfl)
  ·exact ps_os bf_L (pe_var (i:=0) rfl (.inl rfl)) (pe_var (i:=1) rfl (.inl rfl))) (fun _ _ _ _ _ _ _ _ => rfl)
theorem xc_Missing (t : Tx K mg) : Xc P w K mg base 1 "Missing" ["anchor"]:=(xk_Missing t).xc
theorem sc_NoItem : FnScope [selfS, "item"] [selfS, "item"] (defScope s_NoItem):=⟨rfl, rfl, rfl, by decide +kernel, rfl, by decide +kernel, by decide +kernel⟩
theorem xk_NoItem (t : Tx K mg) : XcK P w K mg base 1 "NoItem" "item" :=
 xc_oneK bf_L t.x_NoItem rfl rfl rfl t.d_NoItem t.g_NoItem sc_NoItem (fun _ _ _ _ _ _ us hl => match us, hl with | [_, _], _ => rfl) (t.x_NoItem.noat _ (by decide)) (fun cdv A outer s H E => by
  refine ⟨tCons (tVar 0) (tCons (tC (.str "there is no such item")) tNil), ?_, fun a y H Q hq => ⟨_, rfl, hq _⟩⟩
  refine pss_cons ?_ (pss_one ?_)
  ·refine ps_expr ?_
   exact pe_binit (nB:="LookupError") bf_L rfl t.n_LookupError bt_L in_L rfl (pa_cons (pe_var (i:=0) rfl (.inl rfl)) (pa_cons pe_str pa_nil rfl) rfl)
  ·exact ps_os bf_L (pe_var (i:=0) rfl (.inl rfl)) (pe_var (i:=1) rfl (.inl rfl))) (fun _ _ _ _ _ _ _ _ => rfl)
theorem xc_NoItem (t : Tx K mg) : Xc P w K mg base 1 "NoItem" ["item"]:=(xk_NoItem t).xc
theorem sc_NoOrder : FnScope [selfS, "number"] [selfS, "number"] (defScope s_NoOrder):=⟨rfl, rfl, rfl, by decide +kernel, rfl, by decide +kernel, by decide +kernel⟩
theorem xk_NoOrder (t : Tx K mg) : XcK P w K mg base 1 "NoOrder" "number" :=
 xc_oneK bf_L t.x_NoOrder rfl rfl rfl t.d_NoOrder t.g_NoOrder sc_NoOrder (fun _ _ _ _ _ _ us hl => match us, hl with | [_, _], _ => rfl) (t.x_NoOrder.noat _ (by decide)) (fun cdv A outer s H E => by
  refine ⟨tCons (tVar 0) (tCons (tC (.str "there is no order with this number")) tNil), ?_, fun a y H Q hq => ⟨_, rfl, hq _⟩⟩
  refine pss_cons ?_ (pss_one ?_)
  ·refine ps_expr ?_
   exact pe_binit (nB:="LookupError") bf_L rfl t.n_LookupError bt_L in_L rfl (pa_cons (pe_var (i:=0) rfl (.inl rfl)) (pa_cons pe_str pa_nil rfl) rfl)
  ·exact ps_os bf_L (pe_var (i:=0) rfl (.inl rfl)) (pe_var (i:=1) rfl (.inl rfl))) (fun _ _ _ _ _ _ _ _ => rfl)
theorem xc_NoOrder (t : Tx K mg) : Xc P w K mg base 1 "NoOrder" ["number"]:=(xk_NoOrder t).xc
theorem sc_NoState : FnScope [selfS, "many"] [selfS, "many"] (defScope s_NoState):=⟨rfl, rfl, rfl, by decide +kernel, rfl, by decide +kernel, by decide +kernel⟩
theorem xk_NoState (t : Tx K mg) : XcK P w K mg base 1 "NoState" "many" :=
 xc_oneK bf_L t.x_NoState rfl rfl rfl t.d_NoState t.g_NoState sc_NoState (fun _ _ _ _ _ _ us hl => match us, hl with | [_, _], _ => rfl) (t.x_NoState.noat _ (by decide)) (fun cdv A outer s H E => by
  refine ⟨tCons (tVar 0) (tCons (tC (.str "there are not so many operations")) tNil), ?_, fun a y H Q hq => ⟨_, rfl, hq _⟩⟩
  refine pss_cons ?_ (pss_one ?_)
  ·refine ps_expr ?_
   exact pe_binit (nB:="LookupError") bf_L rfl t.n_LookupError bt_L in_L rfl (pa_cons (pe_var (i:=0) rfl (.inl rfl)) (pa_cons pe_str pa_nil rfl) rfl)
  ·exact ps_os bf_L (pe_var (i:=0) rfl (.inl rfl)) (pe_var (i:=1) rfl (.inl rfl))) (fun _ _ _ _ _ _ _ _ => rfl)
theorem xc_NoState (t : Tx K mg) : Xc P w K mg base 1 "NoState" ["many"]:=(xk_NoState t).xc
theorem sc_NoWay : FnScope [selfS, "place"] [selfS, "place"] (defScope s_NoWay):=⟨rfl, rfl, rfl, by decide +kernel, rfl, by decide +kernel, by decide +kernel⟩
theorem xk_NoWay (t : Tx K mg) : XcK P w K mg base 1 "NoWay" "place" :=
 xc_oneK bf_R t.x_NoWay rfl rfl rfl t.d_NoWay t.g_NoWay sc_NoWay (fun _ _ _ _ _ _ us hl => match us, hl with | [_, _], _ => rfl) (t.x_NoWay.noat _ (by decide)) (fun cdv A outer s H E => by
  refine ⟨tCons (tVar 0) (tCons (tC (.str "no order passes through this list")) tNil), ?_, fun a y H Q hq => ⟨_, rfl, hq _⟩⟩
  refine pss_cons ?_ (pss_one ?_)
  ·refine ps_expr ?_
   exact pe_binit (nB:="RuntimeError") bf_R rfl t.n_RuntimeError bt_R in_R rfl (pa_cons (pe_var (i:=0) rfl (.inl rfl)) (pa_cons pe_str pa_nil rfl) rfl)
  ·exact ps_os bf_R (pe_var (i:=0) rfl (.inl rfl)) (pe_var (i:=1) rfl (.inl rfl))) (fun _ _ _ _ _ _ _ _ => rfl)
theorem xc_NoWay (t : Tx K mg) : Xc P w K mg base 1 "NoWay" ["place"]:=(xk_NoWay t).xc
theorem sc_TooMany : FnScope [selfS, "many"] [selfS, "many"] (defScope s_TooMany):=⟨rfl, rfl, rfl, by decide +kernel, rfl, by decide +kernel, by decide +kernel⟩
theorem xk_TooMany (t : Tx K mg) : XcK P w K mg base 1 "TooMany" "many" :=
 xc_oneK bf_O t.x_TooMany rfl rfl rfl t.d_TooMany t.g_TooMany sc_TooMany (fun _ _ _ _ _ _ us hl => match us, hl with | [_, _], _ => rfl) (t.x_TooMany.noat _ (by decide)) (fun cdv A outer s H E => by
  refine ⟨tCons (tVar 0) (tCons (tC (.str "there are too many to list")) tNil), ?_, fun a y H Q hq => ⟨_, rfl, hq _⟩⟩
  refine pss_cons ?_ (pss_one ?_)
  ·refine ps_expr ?_
   exact pe_binit (nB:="OverflowError") bf_O rfl t.n_OverflowError bt_O in_O rfl (pa_cons (pe_var (i:=0) rfl (.inl rfl)) (pa_cons pe_str pa_nil rfl) rfl)
  ·exact ps_os bf_O (pe_var (i:=0) rfl (.inl rfl)) (pe_var (i:=1) rfl (.inl rfl))) (fun _ _ _ _ _ _ _ _ => rfl)
theorem xc_TooMany (t : Tx K mg) : Xc P w K mg base 1 "TooMany" ["many"]:=(xk_TooMany t).xc
theorem sc_Full : FnScope [selfS, "many"] [selfS, "many"] (defScope s_Full):=⟨rfl, rfl, rfl, by decide +kernel, rfl, by decide +kernel, by decide +kernel⟩
theorem xk_Full (t : Tx K mg) : XcK P w K mg base 1 "Full" "many" :=
 xc_oneK bf_O t.x_Full rfl rfl rfl t.d_Full t.g_Full sc_Full (fun _ _ _ _ _ _ us hl => match us, hl with | [_, _], _ => rfl) (t.x_Full.noat _ (by decide)) (fun cdv A outer s H E => by
  refine ⟨tCons (tVar 0) (tCons (tC (.str "there are as many items as possible")) tNil), ?_, fun a y H Q hq => ⟨_, rfl, hq _⟩⟩
  refine pss_cons ?_ (pss_one ?_)
  ·refine ps_expr ?_
   exact pe_binit (nB:="OverflowError") bf_O rfl t.n_OverflowError bt_O in_O rfl (pa_cons (pe_var (i:=0) rfl (.inl rfl)) (pa_cons pe_str pa_nil rfl) rfl)
  ·exact ps_os bf_O (pe_var (i:=0) rfl (.inl rfl)) (pe_var (i:=1) rfl (.inl rfl))) (fun _ _ _ _ _ _ _ _ => rfl)
theorem xc_Full (t : Tx K mg) : Xc P w K mg base 1 "Full" ["many"]:=(xk_Full t).xc
theorem sc_Editor___init__ : FnScope ["self"] ["self"] (defScope s_Editor___init__):=⟨rfl, rfl, rfl, by decide +kernel, rfl, by decide +kernel, by decide +kernel⟩
theorem ini_Editor (t : Tx K mg) : ∃ fd, FnOk P w K mg base (L2.CX P w) 1 (He.ma K (He.ga K "Editor") "__init__") fd ["self"] (spIni (TT K) K (He.ga K "Editor") fs0_Editor) ∧ Binds K fd ["self"] []:=by
 obtain ⟨fd, F⟩:=t.d_Editor___init__
 exact ⟨fd, fn_ini (T:=TT K) (N:=["self"]) F sc_Editor___init__ rfl (fun cdv A outer s H E hr => (jini_cons (jl_lst (ja_cons (je_tup (ja_cons (je_tup ja_nil) (ja_cons (je_tup ja_nil) (ja_cons (je_tup ja_nil) ja_nil)))) ja_nil)) (fun _ _ => rfl) t.cls_Editor t.no_Editor_own_states rfl (by decide) (jini_cons (jl_lst ja_nil) (fun _ _ => rfl) t.cls_Editor t.no_Editor_own_journal rfl (by decide) jini_nil))), F.bindsN (fun _ _ _ _ _ _ us hl => match us, hl with | [_], _ => rfl)⟩
theorem sc_marks_of : FnScope ["items", "anchors", "found", "anchor"] ["items", "anchors"] (defScope s_marks_of):=⟨rfl, rfl, rfl, by decide +kernel, rfl, by decide +kernel, by decide +kernel⟩
theorem ok_marks_of (t : Tx K mg) : OkK (TT K) P w K mg base 1 "marks_of" ["items", "anchors"] F_marks_of:=by
 obtain ⟨t_UNKNOWN, v_UNKNOWN⟩:=t.v_UNKNOWN
 refine ok_defK (N:=["items", "anchors", "found", "anchor"]) (g:=b_marks_of) false t.d_marks_of t.g_marks_of sc_marks_of (fun _ _ _ _ _ _ us hl => match us, hl with | [_, _], _ => rfl) fun cdv A outer s H E hr hf tk pw => ?_
 exact (jb_cons (js_set (i:=2) sc_marks_of.nd (je_cell (jl_lst ja_nil))) (jb_cons (js_for pw rfl (ji_seq (je_var 1)) (jg_name (i:=3) sc_marks_of.nd) (jb_one (js_if (jt_cmp (op_isN) l_isN (je_var 3) je_non rfl) (jb_one (js_expr (je_append (je_var 2) (ja_cons (je_neg je_int) ja_nil)))) (jb_one (js_expr (je_append (je_var 2) (ja_cons (je_if (jt_cmp (op_eqD (hu64 hr)) l_eqD (je_var 3) (je_glob (d:=(.str "?")) (v:=(.str "?")) rfl v_UNKNOWN ⟨t_UNKNOWN, rfl⟩ rfl) rfl) je_non (je_index (je_var 0) (ja_cons (je_var 3) ja_nil))) ja_nil))))))) (jb_one (js_ret (je_var 2)))))
theorem sc_nearest : FnScope ["present", "place", "other"] ["present", "place"] (defScope s_nearest):=⟨rfl, rfl, rfl, by decide +kernel, rfl, by decide +kernel, by decide +kernel⟩
theorem ok_nearest (t : Tx K mg) : OkK (TT K) P w K mg base 1 "nearest" ["present", "place"] F_nearest:=by
 refine ok_defK (N:=["present", "place", "other"]) (g:=b_nearest) false t.d_nearest t.g_nearest sc_nearest (fun _ _ _ _ _ _ us hl => match us, hl with | [_, _], _ => rfl) fun cdv A outer s H E hr hf tk pw => ?_
 exact (jb_one (js_ret (je_max rfl t.n_max (ja_cons (je_add (je_frz (jl_comp rfl sc_nearest.nd (ji_seq (je_var 0)) (blkOk_by (own:=[("other", 2)]) (by kernel_rfl)) (fun _ _ _ _ _ => (jc_name (i:=2) sc_nearest.nd)) (fun _ _ _ _ _ => (jp_one (jt_cmp (op_lt) l_ltI (je_var 2) (je_var 1) rfl))) (fun _ _ _ _ _ => (je_var 2)))) (je_frz (jl_lst (ja_cons (je_neg je_int) ja_nil)))) ja_nil))))
theorem sc_fits : FnScope ["marks", "present", "place"] ["marks", "present", "place"] (defScope s_fits):=⟨rfl, rfl, rfl, by decide +kernel, rfl, by decide +kernel, by decide +kernel⟩
theorem ok_fits (t : Tx K mg) : OkK (TT K) P w K mg base 2 "fits" ["marks", "present", "place"] F_fits:=by
 have O_nearest:=ok_nearest (P:=P) (w:=w) (base:=base) t
 refine ok_defK (N:=["marks", "present", "place"]) (g:=b_fits) false t.d_fits t.g_fits sc_fits (fun _ _ _ _ _ _ us hl => match us, hl with | [_, _, _], _ => rfl) fun cdv A outer s H E hr hf tk pw => ?_
 unfold b_fits B_fits
 exact (jb_one (js_ret (je_or (je_is (je_ix (je_var 0) (je_var 2)) je_non) (je_one (je_eq (hu64 hr) (je_ix (je_var 0) (je_var 2)) (je_apK O_nearest (hr.mono (by first|decide|omega|(simp only[Nat.add_eq];omega))) hf tk (ja_cons (je_var 1) (ja_cons (je_var 2) ja_nil))))))))
theorem sc_present_after : FnScope ["items", "marks", "beginning", "present", "item", "place"] ["items", "marks", "beginning"] (defScope s_present_after):=⟨rfl, rfl, rfl, by decide +kernel, rfl, by decide +kernel, by decide +kernel⟩
theorem ok_present_after (t : Tx K mg) : OkK (TT K) P w K mg base 3 "present_after" ["items", "marks", "beginning"] F_present_after:=by
 have O_fits:=ok_fits (P:=P) (w:=w) (base:=base) t
 refine ok_defK (N:=["items", "marks", "beginning", "present", "item", "place"]) (g:=b_present_after) false t.d_present_after t.g_present_after sc_present_after (fun _ _ _ _ _ _ us hl => match us, hl with | [_, _, _], _ => rfl) fun cdv A outer s H E hr hf tk pw => ?_
 unfold b_present_after B_present_after
 exact (jb_cons (js_set (i:=3) sc_present_after.nd (je_cell (jl_lst ja_nil))) (jb_cons (js_for pw rfl (ji_seq (je_var 2)) (jg_name (i:=4) sc_present_after.nd) (jb_cons (js_set (i:=5) sc_present_after.nd (je_index (je_var 0) (ja_cons (je_var 4) ja_nil))) (jb_cons (js_if (jt_not (jt_val (je_apK O_fits (hr.mono (by first|decide|omega|(simp only[Nat.add_eq];omega))) hf tk (ja_cons (je_var 1) (ja_cons (je_var 3) (ja_cons (je_var 5) ja_nil)))))) (jb_one (js_ret je_non)) jb_nil) (jb_one (js_expr (je_append (je_var 3) (ja_cons (je_var 5) ja_nil))))))) (jb_one (js_ret (je_var 3)))))
theorem sc_gaps_of : FnScope ["size", "present", "bounds", "low", "high"] ["size", "present"] (defScope s_gaps_of):=⟨rfl, rfl, rfl, by decide +kernel, rfl, by decide +kernel, by decide +kernel⟩
theorem ok_gaps_of (t : Tx K mg) : OkK (TT K) P w K mg base 1 "gaps_of" ["size", "present"] F_gaps_of:=by
 refine ok_defK (N:=["size", "present", "bounds", "low", "high"]) (g:=b_gaps_of) false t.d_gaps_of t.g_gaps_of sc_gaps_of (fun _ _ _ _ _ _ us hl => match us, hl with | [_, _], _ => rfl) fun cdv A outer s H E hr hf tk pw => ?_
 exact (jb_cons (js_set (i:=2) sc_gaps_of.nd (je_add (je_add (je_frz (jl_lst (ja_cons (je_neg je_int) ja_nil))) (je_frz (jl_sorted t.n_sorted (ja_cons (je_var 1) ja_nil)))) (je_frz (jl_lst (ja_cons (je_var 0) ja_nil))))) (jb_one (js_ret (je_frz (jl_comp rfl sc_gaps_of.nd (ji_zip t.n_zip (ja_cons (je_var 2) (ja_cons (je_slice (je_var 2) (jo_some je_int) jo_none) ja_nil))) (blkOk_by (own:=[("low", 3), ("high", 4)]) (by kernel_rfl)) (fun _ _ _ _ _ => (jc_tup (n:=2) rfl (jcs_cons (i:=3) sc_gaps_of.nd (jcs_cons (i:=4) sc_gaps_of.nd jcs_nil)))) (fun _ _ _ _ _ => (jp_one (jt_cmp (op_gt) l_gtI (je_var 4) (je_add (je_var 3) je_int) rfl))) (fun _ _ _ _ _ => (je_tupK (ja_cons (je_add (je_var 3) je_int) (ja_cons (je_var 4) ja_nil)))))))))
theorem sc_choose : FnScope ["many", "few", "found", "turn"] ["many", "few"] (defScope s_choose):=⟨rfl, rfl, rfl, by decide +kernel, rfl, by decide +kernel, by decide +kernel⟩
theorem ok_choose (t : Tx K mg) : OkK (TT K) P w K mg base 1 "choose" ["many", "few"] F_choose:=by
 refine ok_defK (N:=["many", "few", "found", "turn"]) (g:=b_choose) false t.d_choose t.g_choose sc_choose (fun _ _ _ _ _ _ us hl => match us, hl with | [_, _], _ => rfl) fun cdv A outer s H E hr hf tk pw => ?_
 exact (jb_cons (js_set (i:=2) sc_choose.nd je_int) (jb_cons (js_for pw rfl (ji_range1 t.n_range (ja_cons (je_var 1) ja_nil)) (jg_name (i:=3) sc_choose.nd) (jb_one (js_set (i:=2) sc_choose.nd (je_div (je_mul (je_var 2) (je_sub (je_var 0) (je_var 3))) (je_add (je_var 3) je_int))))) (jb_one (js_ret (je_var 2)))))
theorem sc_mixings : FnScope ["lengths", "length", "found", "total"] ["lengths"] (defScope s_mixings):=⟨rfl, rfl, rfl, by decide +kernel, rfl, by decide +kernel, by decide +kernel⟩
theorem ok_mixings (t : Tx K mg) : OkK (TT K) P w K mg base 2 "mixings" ["lengths"] F_mixings:=by
 have O_choose:=ok_choose (P:=P) (w:=w) (base:=base) t
 refine ok_defK (N:=["lengths", "length", "found", "total"]) (g:=b_mixings) false t.d_mixings t.g_mixings sc_mixings (fun _ _ _ _ _ _ us hl => match us, hl with | [_], _ => rfl) fun cdv A outer s H E hr hf tk pw => ?_
 unfold b_mixings B_mixings
 exact (jb_cons (js_asg (je_tup (ja_cons je_int (ja_cons je_int ja_nil))) (jg_tup (n:=2) rfl (jgs_cons (i:=2) sc_mixings.nd (jgs_cons (i:=3) sc_mixings.nd jgs_nil)))) (jb_cons (js_for pw rfl (ji_seq (je_var 0)) (jg_name (i:=1) sc_mixings.nd) (jb_cons (js_augAdd (i:=3) sc_mixings.nd (je_var 1)) (jb_one (js_augMul (i:=2) sc_mixings.nd (je_apK O_choose (hr.mono (by first|decide|omega|(simp only[Nat.add_eq];omega))) hf tk (ja_cons (je_var 3) (ja_cons (je_var 1) ja_nil))))))) (jb_one (js_ret (je_var 2)))))
theorem sc_count_rest : FnScope ["table", "size", "present", "gaps", "found", "gap", "first", "end"] ["table", "size", "present"] (defScope s_count_rest):=⟨rfl, rfl, rfl, by decide +kernel, rfl, by decide +kernel, by decide +kernel⟩
theorem ok_count_rest (t : Tx K mg) : OkK (TT K) P w K mg base 3 "count_rest" ["table", "size", "present"] F_count_rest:=by
 have O_gaps_of:=ok_gaps_of (P:=P) (w:=w) (base:=base) t
 have O_mixings:=ok_mixings (P:=P) (w:=w) (base:=base) t
 refine ok_defK (N:=["table", "size", "present", "gaps", "found", "gap", "first", "end"]) (g:=b_count_rest) false t.d_count_rest t.g_count_rest sc_count_rest (fun _ _ _ _ _ _ us hl => match us, hl with | [_, _, _], _ => rfl) fun cdv A outer s H E hr hf tk pw => ?_
 unfold b_count_rest B_count_rest
 exact (jb_cons (js_set (i:=3) sc_count_rest.nd (je_apK O_gaps_of (hr.mono (by first|decide|omega|(simp only[Nat.add_eq];omega))) hf tk (ja_cons (je_var 1) (ja_cons (je_var 2) ja_nil)))) (jb_cons (js_set (i:=4) sc_count_rest.nd (je_apK O_mixings (hr.mono (by first|decide|omega|(simp only[Nat.add_eq];omega))) hf tk (ja_cons (je_frz (jl_comp rfl sc_count_rest.nd (ji_seq (je_var 3)) (blkOk_by (own:=[("first", 6), ("end", 7)]) (by kernel_rfl)) (fun _ _ _ _ _ => (jc_tup (n:=2) rfl (jcs_cons (i:=6) sc_count_rest.nd (jcs_cons (i:=7) sc_count_rest.nd jcs_nil)))) (fun _ _ _ _ _ => jp_nil) (fun _ _ _ _ _ => (je_sub (je_var 7) (je_var 6))))) ja_nil))) (jb_cons (js_for pw rfl (ji_seq (je_var 3)) (jg_name (i:=5) sc_count_rest.nd) (jb_one (js_augMul (i:=4) sc_count_rest.nd (je_dget (hu1 hr) (je_var 0) (je_var 5))))) (jb_one (js_ret (je_var 4))))))
theorem sc_can_begin : FnScope ["marks", "first", "place"] ["marks", "first", "place"] (defScope s_can_begin):=⟨rfl, rfl, rfl, by decide +kernel, rfl, by decide +kernel, by decide +kernel⟩
theorem ok_can_begin (t : Tx K mg) : OkK (TT K) P w K mg base 1 "can_begin" ["marks", "first", "place"] F_can_begin:=by
 refine ok_defK (N:=["marks", "first", "place"]) (g:=b_can_begin) false t.d_can_begin t.g_can_begin sc_can_begin (fun _ _ _ _ _ _ us hl => match us, hl with | [_, _, _], _ => rfl) fun cdv A outer s H E hr hf tk pw => ?_
 exact (jb_one (js_ret (je_or (je_is (je_ix (je_var 0) (je_var 2)) je_non) (je_one (je_eq (hu64 hr) (je_ix (je_var 0) (je_var 2)) (je_sub (je_var 1) je_int))))))
theorem sc_gap_table : FnScope ["marks", "size", "table", "first", "length", "end", "place"] ["marks"] (defScope s_gap_table):=⟨rfl, rfl, rfl, by decide +kernel, rfl, by decide +kernel, by decide +kernel⟩
theorem ok_gap_table (t : Tx K mg) : OkK (TT K) P w K mg base 2 "gap_table" ["marks"] F_gap_table:=by
 have O_can_begin:=ok_can_begin (P:=P) (w:=w) (base:=base) t
 have O_choose:=ok_choose (P:=P) (w:=w) (base:=base) t
 refine ok_defK (N:=["marks", "size", "table", "first", "length", "end", "place"]) (g:=b_gap_table) false t.d_gap_table t.g_gap_table sc_gap_table (fun _ _ _ _ _ _ us hl => match us, hl with | [_], _ => rfl) fun cdv A outer s H E hr hf tk pw => ?_
 unfold b_gap_table B_gap_table
 exact (jb_cons (js_set (i:=1) sc_gap_table.nd (je_len t.n_len (ja_cons (je_var 0) ja_nil))) (jb_cons (js_set (i:=2) sc_gap_table.nd je_dnewT) (jb_cons (js_for pw rfl (ji_range1 t.n_range (ja_cons (je_add (je_var 1) je_int) ja_nil)) (jg_name (i:=3) sc_gap_table.nd) (jb_one (js_asg je_int (jg_sub (hu1 hr) (je_var 2) (je_tupK (ja_cons (je_var 3) (ja_cons (je_var 3) ja_nil))))))) (jb_cons (js_for pw rfl (ji_range2 t.n_range (ja_cons je_int (ja_cons (je_add (je_var 1) je_int) ja_nil))) (jg_name (i:=4) sc_gap_table.nd) (jb_one (js_for pw rfl (ji_range1 t.n_range (ja_cons (je_add (je_sub (je_var 1) (je_var 4)) je_int) ja_nil)) (jg_name (i:=3) sc_gap_table.nd) (jb_cons (js_set (i:=5) sc_gap_table.nd (je_add (je_var 3) (je_var 4))) (jb_one (js_asg (je_sum rfl t.n_sum (ja_cons (je_frz (jl_comp rfl sc_gap_table.nd (ji_range2 t.n_range (ja_cons (je_var 3) (ja_cons (je_var 5) ja_nil))) (blkOk_by (own:=[("place", 6)]) (by kernel_rfl)) (fun _ _ _ _ _ => (jc_name (i:=6) sc_gap_table.nd)) (fun _ _ _ _ _ => (jp_one (jt_val (je_apK O_can_begin (hr.mono (by first|decide|omega|(simp only[Nat.add_eq];omega))) hf tkB (ja_cons (je_var 0) (ja_cons (je_var 3) (ja_cons (je_var 6) ja_nil))))))) (fun _ _ _ _ _ => (je_mul (je_mul (je_apK O_choose (hr.mono (by first|decide|omega|(simp only[Nat.add_eq];omega))) hf tkB (ja_cons (je_sub (je_var 4) je_int) (ja_cons (je_sub (je_var 6) (je_var 3)) ja_nil))) (je_dget (hu1 hr) (je_var 2) (je_tupK (ja_cons (je_var 3) (ja_cons (je_var 6) ja_nil))))) (je_dget (hu1 hr) (je_var 2) (je_tupK (ja_cons (je_add (je_var 6) je_int) (ja_cons (je_var 5) ja_nil)))))))) ja_nil)) (jg_sub (hu1 hr) (je_var 2) (je_tupK (ja_cons (je_var 3) (ja_cons (je_var 5) ja_nil)))))))))) (jb_one (js_ret (je_var 2)))))))
theorem sc_count_after : FnScope ["items", "anchors", "beginning", "marks", "present"] ["items", "anchors", "beginning"] (defScope s_count_after):=⟨rfl, rfl, rfl, by decide +kernel, rfl, by decide +kernel, by decide +kernel⟩
theorem ok_count_after (t : Tx K mg) : OkK (TT K) P w K mg base 4 "count_after" ["items", "anchors", "beginning"] F_count_after:=by
 have O_marks_of:=ok_marks_of (P:=P) (w:=w) (base:=base) t
 have O_present_after:=ok_present_after (P:=P) (w:=w) (base:=base) t
 have O_count_rest:=ok_count_rest (P:=P) (w:=w) (base:=base) t
 have O_gap_table:=ok_gap_table (P:=P) (w:=w) (base:=base) t
 refine ok_defK (N:=["items", "anchors", "beginning", "marks", "present"]) (g:=b_count_after) false t.d_count_after t.g_count_after sc_count_after (fun _ _ _ _ _ _ us hl => match us, hl with | [_, _, _], _ => rfl) fun cdv A outer s H E hr hf tk pw => ?_
 unfold b_count_after B_count_after
 exact (jb_cons (js_set (i:=3) sc_count_after.nd (je_apK O_marks_of (hr.mono (by first|decide|omega|(simp only[Nat.add_eq];omega))) hf tk (ja_cons (je_var 0) (ja_cons (je_var 1) ja_nil)))) (jb_cons (js_set (i:=4) sc_count_after.nd (je_apK O_present_after (hr.mono (by first|decide|omega|(simp only[Nat.add_eq];omega))) hf tk (ja_cons (je_var 0) (ja_cons (je_var 3) (ja_cons (je_var 2) ja_nil))))) (jb_one (js_ret (je_if (jt_cmp (op_isN) l_isN (je_var 4) je_non rfl) je_int (je_apK O_count_rest (hr.mono (by first|decide|omega|(simp only[Nat.add_eq];omega))) hf tk (ja_cons (je_apK O_gap_table (hr.mono (by first|decide|omega|(simp only[Nat.add_eq];omega))) hf tk (ja_cons (je_var 3) ja_nil)) (ja_cons (je_len t.n_len (ja_cons (je_var 0) ja_nil)) (ja_cons (je_var 4) ja_nil)))))))))
theorem sc_put : FnScope ["items", "anchors", "item", "anchor", "at"] ["items", "anchors", "item", "anchor"] (defScope s_put):=⟨rfl, rfl, rfl, by decide +kernel, rfl, by decide +kernel, by decide +kernel⟩
theorem ok_put (t : Tx K mg) : OkK (TT K) P w K mg base 3 "put" ["items", "anchors", "item", "anchor"] F_put:=by
 refine ok_defK (N:=["items", "anchors", "item", "anchor", "at"]) (g:=b_put) false t.d_put t.g_put sc_put (fun _ _ _ _ _ _ us hl => match us, hl with | [_, _, _, _], _ => rfl) fun cdv A outer s H E hr hf tk pw => ?_
 exact (jb_cons (js_if (jt_cmp (op_inX (hu65 hr)) (l_in false) (je_var 2) (je_var 0) rfl) (jb_one (js_raise1 (T:=TT K) (fun _ => rfl) (xc_Duplicate (P:=P) (w:=w) (base:=base) t) rfl tk (hr.mono (by first|decide|omega|(simp only[Nat.add_eq];omega))) (ja_cons (je_var 2) ja_nil))) jb_nil) (jb_cons (js_if (jt_of_jw (jw_and (jt_cmp (op_notN) l_isNN (je_var 3) je_non rfl) (jw_and1 (jt_cmp (op_notInX (hu65 hr)) (l_in true) (je_var 3) (je_var 0) rfl)))) (jb_one (js_raise1 (T:=TT K) (fun _ => rfl) (xc_Missing (P:=P) (w:=w) (base:=base) t) rfl tk (hr.mono (by first|decide|omega|(simp only[Nat.add_eq];omega))) (ja_cons (je_var 3) ja_nil))) jb_nil) (jb_cons (js_set (i:=4) sc_put.nd (je_if (jt_cmp (op_isN) l_isN (je_var 3) je_non rfl) je_int (je_add (je_index (je_var 0) (ja_cons (je_var 3) ja_nil)) je_int))) (jb_one (js_ret (je_tup (ja_cons (je_add (je_add (je_slice (je_var 0) jo_none (jo_some (je_var 4))) (je_tup (ja_cons (je_var 2) ja_nil))) (je_slice (je_var 0) (jo_some (je_var 4)) jo_none)) (ja_cons (je_add (je_add (je_slice (je_var 1) jo_none (jo_some (je_var 4))) (je_tup (ja_cons (je_var 3) ja_nil))) (je_slice (je_var 1) (jo_some (je_var 4)) jo_none)) ja_nil))))))))
theorem sc_grown : FnScope ["state", "item", "anchor", "items", "anchors"] ["state", "item", "anchor"] (defScope s_grown):=⟨rfl, rfl, rfl, by decide +kernel, rfl, by decide +kernel, by decide +kernel⟩
theorem ok_grown (t : Tx K mg) : OkK (TT K) P w K mg base 4 "grown" ["state", "item", "anchor"] F_grown:=by
 obtain ⟨t_MOST_ITEMS, v_MOST_ITEMS⟩:=t.v_MOST_ITEMS
 have O_put:=ok_put (P:=P) (w:=w) (base:=base) t
 refine ok_defK (N:=["state", "item", "anchor", "items", "anchors"]) (g:=b_grown) false t.d_grown t.g_grown sc_grown (fun _ _ _ _ _ _ us hl => match us, hl with | [_, _, _], _ => rfl) fun cdv A outer s H E hr hf tk pw => ?_
 unfold b_grown B_grown
 exact (jb_cons (js_asg (je_apK O_put (hr.mono (by first|decide|omega|(simp only[Nat.add_eq];omega))) hf tk (ja_cons (je_ix (je_var 0) je_int) (ja_cons (je_ix (je_var 0) je_int) (ja_cons (je_var 1) (ja_cons (je_var 2) ja_nil))))) (jg_tup (n:=2) rfl (jgs_cons (i:=3) sc_grown.nd (jgs_cons (i:=4) sc_grown.nd jgs_nil)))) (jb_cons (js_if (jt_cmp (op_gt) l_gtI (je_len t.n_len (ja_cons (je_var 3) ja_nil)) (je_glob (d:=(.int 12)) (v:=(.int 12)) rfl v_MOST_ITEMS ⟨t_MOST_ITEMS, rfl⟩ rfl) rfl) (jb_one (js_raise1 (T:=TT K) (fun _ => rfl) (xc_Full (P:=P) (w:=w) (base:=base) t) rfl tk (hr.mono (by first|decide|omega|(simp only[Nat.add_eq];omega))) (ja_cons (je_glob (d:=(.int 12)) (v:=(.int 12)) rfl v_MOST_ITEMS ⟨t_MOST_ITEMS, rfl⟩ rfl) ja_nil))) jb_nil) (jb_one (js_ret (je_tup (ja_cons (je_var 3) (ja_cons (je_var 4) (ja_cons (je_add (je_ix (je_var 0) je_int) (je_tup (ja_cons (je_var 1) ja_nil))) ja_nil))))))))
theorem sc_Editor_insert_one : FnScope ["self", "item", "anchor", "state"] ["self", "item", "anchor"] (defScope s_Editor_insert_one):=⟨rfl, rfl, rfl, by decide +kernel, rfl, by decide +kernel, by decide +kernel⟩
theorem ok_Editor_insert_one (t : Tx K mg) : OkM (TT K) P w K mg base 5 "Editor" "insert_one" ["self", "item", "anchor"] [.none] F_Editor_insert_one:=by
 obtain ⟨t_BEGIN, v_BEGIN⟩:=t.v_BEGIN
 obtain ⟨t_END, v_END⟩:=t.v_END
 have O_grown:=ok_grown (P:=P) (w:=w) (base:=base) t
 refine ok_defM (N:=["self", "item", "anchor", "state"]) (g:=b_Editor_insert_one) false t.d_Editor_insert_one t.cls_Editor t.m_Editor_insert_one sc_Editor_insert_one (fun fd F => by
  obtain ⟨ds, h1, h2⟩:=F.binds1 (ps:=["self", "item", "anchor"]) 3 1 (by simp) rfl (fun _ _ _ _ _ _ _ us its l1 l2 => match us, its, l1, l2 with | [_, _, _], [_], _, _ => ⟨_, rfl, rfl⟩)
  have h1 : L2.Vals [] ds:=h1
  cases h1
  exact h2) (fun fd F => by
  obtain ⟨ds, h1, h2⟩:=F.binds1 (ps:=["self", "item", "anchor"]) 2 0 (by simp) rfl (fun _ _ _ _ _ _ _ us its l1 l2 => match us, its, l1, l2 with | [_, _], [_], _, _ => ⟨_, rfl, rfl⟩)
  exact ⟨[.non], ds, rfl, h1, h2⟩) fun cdv A outer s H E hr hf tk pw => ?_
 unfold b_Editor_insert_one B_Editor_insert_one
 exact (jb_cons (js_expr (je_appendF (ga:=(aCons (fTup (aCons (fC (.str "begin")) (aCons (fC (.str "insert_one")) aNil))) aNil)) (je_fld (T:=TT K) (fun _ => rfl) t.ic_Editor (by decide) (je_var 0)) (ja_cons (je_tup (ja_cons (je_glob (d:=(.str "begin")) (v:=(.str "begin")) rfl v_BEGIN ⟨t_BEGIN, rfl⟩ rfl) (ja_cons je_str ja_nil))) ja_nil))) (jb_one (js_fin (T:=TT K) rfl rfl rfl tk (fun W pn xe tk pw => (jr_cons (js_set (i:=3) sc_Editor_insert_one.nd (je_apK O_grown (hr.mono (by first|decide|omega|(simp only[Nat.add_eq];omega))) hf tk (ja_cons (je_ix (je_fld (T:=TT K) (fun _ => rfl) t.ic_Editor (by decide) (je_var 0)) (je_neg je_int)) (ja_cons (je_var 1) (ja_cons (je_var 2) ja_nil))))) (jr_cons (js_expr (je_appendF (ga:=(aCons (fVar 3) aNil)) (je_fld (T:=TT K) (fun _ => rfl) t.ic_Editor (by decide) (je_var 0)) (ja_cons (je_var 3) ja_nil))) (jr_ret (je_index (je_ix (je_var 3) je_int) (ja_cons (je_var 1) ja_nil)))))) (jb_one (js_expr (je_appendF (ga:=(aCons (fTup (aCons (fC (.str "end")) (aCons (fC (.str "insert_one")) aNil))) aNil)) (je_fld (T:=TT K) (fun _ => rfl) t.ic_Editor (by decide) (je_var 0)) (ja_cons (je_tup (ja_cons (je_glob (d:=(.str "end")) (v:=(.str "end")) rfl v_END ⟨t_END, rfl⟩ rfl) (ja_cons je_str ja_nil))) ja_nil)))) (fun a pn => (jb_one (js_expr (je_appendF (ga:=(aCons (fTup (aCons (fC (.str "end")) (aCons (fC (.str "insert_one")) aNil))) aNil)) (je_fld (T:=TT K) (fun _ => rfl) t.ic_Editor (by decide) (je_var 0)) (ja_cons (je_tup (ja_cons (je_glob (d:=(.str "end")) (v:=(.str "end")) rfl v_END ⟨t_END, rfl⟩ rfl) (ja_cons je_str ja_nil))) ja_nil))))))))
theorem sc_Editor_insert_all : FnScope ["self", "steps", "state", "places", "item", "anchor"] ["self", "steps"] (defScope s_Editor_insert_all):=⟨rfl, rfl, rfl, by decide +kernel, rfl, by decide +kernel, by decide +kernel⟩
theorem ok_Editor_insert_all (t : Tx K mg) : OkM (TT K) P w K mg base 5 "Editor" "insert_all" ["self", "steps"] [] F_Editor_insert_all:=by
 obtain ⟨t_BEGIN, v_BEGIN⟩:=t.v_BEGIN
 obtain ⟨t_END, v_END⟩:=t.v_END
 have O_grown:=ok_grown (P:=P) (w:=w) (base:=base) t
 refine ok_defM (N:=["self", "steps", "state", "places", "item", "anchor"]) (g:=b_Editor_insert_all) false t.d_Editor_insert_all t.cls_Editor t.m_Editor_insert_all sc_Editor_insert_all (fun fd F => F.bindsN (fun _ _ _ _ _ _ us hl => match us, hl with | [_, _], _ => rfl)) (fun fd F => ⟨[], [], rfl, .nil, F.bindsN (fun _ _ _ _ _ _ us hl => match us, hl with | [_, _], _ => rfl)⟩) fun cdv A outer s H E hr hf tk pw => ?_
 unfold b_Editor_insert_all B_Editor_insert_all
 exact (jb_cons (js_expr (je_appendF (ga:=(aCons (fTup (aCons (fC (.str "begin")) (aCons (fC (.str "insert_all")) aNil))) aNil)) (je_fld (T:=TT K) (fun _ => rfl) t.ic_Editor (by decide) (je_var 0)) (ja_cons (je_tup (ja_cons (je_glob (d:=(.str "begin")) (v:=(.str "begin")) rfl v_BEGIN ⟨t_BEGIN, rfl⟩ rfl) (ja_cons je_str ja_nil))) ja_nil))) (jb_one (js_fin (T:=TT K) rfl rfl rfl tk (fun W pn xe tk pw => (jr_cons (js_par (i:=2) (j:=3) rfl sc_Editor_insert_all.nd (ja_cons (je_ix (je_fld (T:=TT K) (fun _ => rfl) t.ic_Editor (by decide) (je_var 0)) (je_neg je_int)) (ja_cons (je_cell (jl_lst ja_nil)) ja_nil))) (jr_cons (js_for pw rfl (ji_seq (je_var 1)) (jg_seq (n:=2) rfl (jgs_cons (i:=4) sc_Editor_insert_all.nd (jgs_cons (i:=5) sc_Editor_insert_all.nd jgs_nil))) (jb_cons (js_set (i:=2) sc_Editor_insert_all.nd (je_apK O_grown (hr.mono (by first|decide|omega|(simp only[Nat.add_eq];omega))) hf tk (ja_cons (je_var 2) (ja_cons (je_var 4) (ja_cons (je_var 5) ja_nil))))) (jb_one (js_expr (je_append (je_var 3) (ja_cons (je_index (je_ix (je_var 2) je_int) (ja_cons (je_var 4) ja_nil)) ja_nil)))))) (jr_cons (js_expr (je_appendF (ga:=(aCons (fVar 2) aNil)) (je_fld (T:=TT K) (fun _ => rfl) t.ic_Editor (by decide) (je_var 0)) (ja_cons (je_var 2) ja_nil))) (jr_ret (je_var 3)))))) (jb_one (js_expr (je_appendF (ga:=(aCons (fTup (aCons (fC (.str "end")) (aCons (fC (.str "insert_all")) aNil))) aNil)) (je_fld (T:=TT K) (fun _ => rfl) t.ic_Editor (by decide) (je_var 0)) (ja_cons (je_tup (ja_cons (je_glob (d:=(.str "end")) (v:=(.str "end")) rfl v_END ⟨t_END, rfl⟩ rfl) (ja_cons je_str ja_nil))) ja_nil)))) (fun a pn => (jb_one (js_expr (je_appendF (ga:=(aCons (fTup (aCons (fC (.str "end")) (aCons (fC (.str "insert_all")) aNil))) aNil)) (je_fld (T:=TT K) (fun _ => rfl) t.ic_Editor (by decide) (je_var 0)) (ja_cons (je_tup (ja_cons (je_glob (d:=(.str "end")) (v:=(.str "end")) rfl v_END ⟨t_END, rfl⟩ rfl) (ja_cons je_str ja_nil))) ja_nil))))))))
theorem sc_with_anchor : FnScope ["items", "anchors", "item", "anchor", "at"] ["items", "anchors", "item", "anchor"] (defScope s_with_anchor):=⟨rfl, rfl, rfl, by decide +kernel, rfl, by decide +kernel, by decide +kernel⟩
theorem ok_with_anchor (t : Tx K mg) : OkK (TT K) P w K mg base 3 "with_anchor" ["items", "anchors", "item", "anchor"] F_with_anchor:=by
 refine ok_defK (N:=["items", "anchors", "item", "anchor", "at"]) (g:=b_with_anchor) false t.d_with_anchor t.g_with_anchor sc_with_anchor (fun _ _ _ _ _ _ us hl => match us, hl with | [_, _, _, _], _ => rfl) fun cdv A outer s H E hr hf tk pw => ?_
 exact (jb_cons (js_if (jt_cmp (op_notInX (hu65 hr)) (l_in true) (je_var 2) (je_var 0) rfl) (jb_one (js_raise1 (T:=TT K) (fun _ => rfl) (xc_NoItem (P:=P) (w:=w) (base:=base) t) rfl tk (hr.mono (by first|decide|omega|(simp only[Nat.add_eq];omega))) (ja_cons (je_var 2) ja_nil))) jb_nil) (jb_cons (js_set (i:=4) sc_with_anchor.nd (je_index (je_var 0) (ja_cons (je_var 2) ja_nil))) (jb_one (js_ret (je_add (je_add (je_tuple t.n_tuple (ja_cons (je_slice (je_var 1) jo_none (jo_some (je_var 4))) ja_nil)) (je_tup (ja_cons (je_var 3) ja_nil))) (je_tuple t.n_tuple (ja_cons (je_slice (je_var 1) (jo_some (je_add (je_var 4) je_int)) jo_none) ja_nil)))))))
theorem sc_count_orders : FnScope ["items", "anchors"] ["items", "anchors"] (defScope s_count_orders):=⟨rfl, rfl, rfl, by decide +kernel, rfl, by decide +kernel, by decide +kernel⟩
theorem ok_count_orders (t : Tx K mg) : OkK (TT K) P w K mg base 3 "count_orders" ["items", "anchors"] F_count_orders:=by
 have O_gap_table:=ok_gap_table (P:=P) (w:=w) (base:=base) t
 have O_marks_of:=ok_marks_of (P:=P) (w:=w) (base:=base) t
 refine ok_defK (N:=["items", "anchors"]) (g:=b_count_orders) false t.d_count_orders t.g_count_orders sc_count_orders (fun _ _ _ _ _ _ us hl => match us, hl with | [_, _], _ => rfl) fun cdv A outer s H E hr hf tk pw => ?_
 unfold b_count_orders B_count_orders
 exact (jb_one (js_ret (je_dget (hu1 hr) (je_apK O_gap_table (hr.mono (by first|decide|omega|(simp only[Nat.add_eq];omega))) hf tk (ja_cons (je_apK O_marks_of (hr.mono (by first|decide|omega|(simp only[Nat.add_eq];omega))) hf tk (ja_cons (je_var 0) (ja_cons (je_var 1) ja_nil))) ja_nil)) (je_tupK (ja_cons je_int (ja_cons (je_len t.n_len (ja_cons (je_var 0) ja_nil)) ja_nil))))))
theorem sc_Editor_listed : FnScope ["self"] ["self"] (defScope s_Editor_listed):=⟨rfl, rfl, rfl, by decide +kernel, rfl, by decide +kernel, by decide +kernel⟩
theorem ok_Editor_listed (t : Tx K mg) : OkM (TT K) P w K mg base 1 "Editor" "listed" ["self"] [] F_Editor_listed:=by
 refine ok_defM (N:=["self"]) (g:=b_Editor_listed) false t.d_Editor_listed t.cls_Editor t.m_Editor_listed sc_Editor_listed (fun fd F => F.bindsN (fun _ _ _ _ _ _ us hl => match us, hl with | [_], _ => rfl)) (fun fd F => ⟨[], [], rfl, .nil, F.bindsN (fun _ _ _ _ _ _ us hl => match us, hl with | [_], _ => rfl)⟩) fun cdv A outer s H E hr hf tk pw => ?_
 exact (jb_one (js_ret (je_ix (je_ix (je_fld (T:=TT K) (fun _ => rfl) t.ic_Editor (by decide) (je_var 0)) (je_neg je_int)) je_int)))
theorem sc_Editor_anchors : FnScope ["self"] ["self"] (defScope s_Editor_anchors):=⟨rfl, rfl, rfl, by decide +kernel, rfl, by decide +kernel, by decide +kernel⟩
theorem ok_Editor_anchors (t : Tx K mg) : OkM (TT K) P w K mg base 1 "Editor" "anchors" ["self"] [] F_Editor_anchors:=by
 refine ok_defM (N:=["self"]) (g:=b_Editor_anchors) false t.d_Editor_anchors t.cls_Editor t.m_Editor_anchors sc_Editor_anchors (fun fd F => F.bindsN (fun _ _ _ _ _ _ us hl => match us, hl with | [_], _ => rfl)) (fun fd F => ⟨[], [], rfl, .nil, F.bindsN (fun _ _ _ _ _ _ us hl => match us, hl with | [_], _ => rfl)⟩) fun cdv A outer s H E hr hf tk pw => ?_
 exact (jb_one (js_ret (je_ix (je_ix (je_fld (T:=TT K) (fun _ => rfl) t.ic_Editor (by decide) (je_var 0)) (je_neg je_int)) je_int)))
theorem sc_Editor_count : FnScope ["self"] ["self"] (defScope s_Editor_count):=⟨rfl, rfl, rfl, by decide +kernel, rfl, by decide +kernel, by decide +kernel⟩
theorem ok_Editor_count (t : Tx K mg) : OkM (TT K) P w K mg base 4 "Editor" "count" ["self"] [] F_Editor_count:=by
 have O_count_orders:=ok_count_orders (P:=P) (w:=w) (base:=base) t
 have O_Editor_listed:=ok_Editor_listed (P:=P) (w:=w) (base:=base) t
 have O_Editor_anchors:=ok_Editor_anchors (P:=P) (w:=w) (base:=base) t
 refine ok_defM (N:=["self"]) (g:=b_Editor_count) false t.d_Editor_count t.cls_Editor t.m_Editor_count sc_Editor_count (fun fd F => F.bindsN (fun _ _ _ _ _ _ us hl => match us, hl with | [_], _ => rfl)) (fun fd F => ⟨[], [], rfl, .nil, F.bindsN (fun _ _ _ _ _ _ us hl => match us, hl with | [_], _ => rfl)⟩) fun cdv A outer s H E hr hf tk pw => ?_
 unfold b_Editor_count B_Editor_count
 exact (jb_one (js_ret (je_apK O_count_orders (hr.mono (by first|decide|omega|(simp only[Nat.add_eq];omega))) hf tk (ja_cons (je_met0 (T:=TT K) (fun _ => rfl) O_Editor_listed (hr.mono (by first|decide|omega|(simp only[Nat.add_eq];omega))) hf tk (je_var 0)) (ja_cons (je_met0 (T:=TT K) (fun _ => rfl) O_Editor_anchors (hr.mono (by first|decide|omega|(simp only[Nat.add_eq];omega))) hf tk (je_var 0)) ja_nil)))))
theorem sc_Editor_order : FnScope ["self"] ["self"] (defScope s_Editor_order):=⟨rfl, rfl, rfl, by decide +kernel, rfl, by decide +kernel, by decide +kernel⟩
theorem ok_Editor_order (t : Tx K mg) : OkM (TT K) P w K mg base 1 "Editor" "order" ["self"] [] F_Editor_order:=by
 refine ok_defM (N:=["self"]) (g:=b_Editor_order) false t.d_Editor_order t.cls_Editor t.m_Editor_order sc_Editor_order (fun fd F => F.bindsN (fun _ _ _ _ _ _ us hl => match us, hl with | [_], _ => rfl)) (fun fd F => ⟨[], [], rfl, .nil, F.bindsN (fun _ _ _ _ _ _ us hl => match us, hl with | [_], _ => rfl)⟩) fun cdv A outer s H E hr hf tk pw => ?_
 exact (jb_one (js_ret (je_ix (je_ix (je_fld (T:=TT K) (fun _ => rfl) t.ic_Editor (by decide) (je_var 0)) (je_neg je_int)) je_int)))
theorem sc_Editor_forget : FnScope ["self", "item", "anchors"] ["self", "item"] (defScope s_Editor_forget):=⟨rfl, rfl, rfl, by decide +kernel, rfl, by decide +kernel, by decide +kernel⟩
theorem ok_Editor_forget (t : Tx K mg) : OkM (TT K) P w K mg base 5 "Editor" "forget" ["self", "item"] [] F_Editor_forget:=by
 obtain ⟨t_BEGIN, v_BEGIN⟩:=t.v_BEGIN
 obtain ⟨t_UNKNOWN, v_UNKNOWN⟩:=t.v_UNKNOWN
 obtain ⟨t_END, v_END⟩:=t.v_END
 have O_with_anchor:=ok_with_anchor (P:=P) (w:=w) (base:=base) t
 have O_Editor_count:=ok_Editor_count (P:=P) (w:=w) (base:=base) t
 have O_Editor_listed:=ok_Editor_listed (P:=P) (w:=w) (base:=base) t
 have O_Editor_anchors:=ok_Editor_anchors (P:=P) (w:=w) (base:=base) t
 have O_Editor_order:=ok_Editor_order (P:=P) (w:=w) (base:=base) t
 refine ok_defM (N:=["self", "item", "anchors"]) (g:=b_Editor_forget) false t.d_Editor_forget t.cls_Editor t.m_Editor_forget sc_Editor_forget (fun fd F => F.bindsN (fun _ _ _ _ _ _ us hl => match us, hl with | [_, _], _ => rfl)) (fun fd F => ⟨[], [], rfl, .nil, F.bindsN (fun _ _ _ _ _ _ us hl => match us, hl with | [_, _], _ => rfl)⟩) fun cdv A outer s H E hr hf tk pw => ?_
 unfold b_Editor_forget B_Editor_forget
 exact (jb_cons (js_expr (je_appendF (ga:=(aCons (fTup (aCons (fC (.str "begin")) (aCons (fC (.str "forget")) aNil))) aNil)) (je_fld (T:=TT K) (fun _ => rfl) t.ic_Editor (by decide) (je_var 0)) (ja_cons (je_tup (ja_cons (je_glob (d:=(.str "begin")) (v:=(.str "begin")) rfl v_BEGIN ⟨t_BEGIN, rfl⟩ rfl) (ja_cons je_str ja_nil))) ja_nil))) (jb_one (js_fin (T:=TT K) rfl rfl rfl tk (fun W pn xe tk pw => (jr_cons (js_set (i:=2) sc_Editor_forget.nd (je_apK O_with_anchor (hr.mono (by first|decide|omega|(simp only[Nat.add_eq];omega))) hf tk (ja_cons (je_met0 (T:=TT K) (fun _ => rfl) O_Editor_listed (hr.mono (by first|decide|omega|(simp only[Nat.add_eq];omega))) hf tk (je_var 0)) (ja_cons (je_met0 (T:=TT K) (fun _ => rfl) O_Editor_anchors (hr.mono (by first|decide|omega|(simp only[Nat.add_eq];omega))) hf tk (je_var 0)) (ja_cons (je_var 1) (ja_cons (je_glob (d:=(.str "?")) (v:=(.str "?")) rfl v_UNKNOWN ⟨t_UNKNOWN, rfl⟩ rfl) ja_nil)))))) (jr_cons (js_expr (je_appendF (ga:=(aCons (fTup (aCons (fMet "Editor" "listed" 0 [] F_Editor_listed (fVar 0) aNil) (aCons (fVar 2) (aCons (fMet "Editor" "order" 0 [] F_Editor_order (fVar 0) aNil) aNil)))) aNil)) (je_fld (T:=TT K) (fun _ => rfl) t.ic_Editor (by decide) (je_var 0)) (ja_cons (je_tup (ja_cons (je_met0 (T:=TT K) (fun _ => rfl) O_Editor_listed (hr.mono (by first|decide|omega|(simp only[Nat.add_eq];omega))) hf tk (je_var 0)) (ja_cons (je_var 2) (ja_cons (je_met0 (T:=TT K) (fun _ => rfl) O_Editor_order (hr.mono (by first|decide|omega|(simp only[Nat.add_eq];omega))) hf tk (je_var 0)) ja_nil)))) ja_nil))) (jr_ret (je_met0 (T:=TT K) (fun _ => rfl) O_Editor_count (hr.mono (by first|decide|omega|(simp only[Nat.add_eq];omega))) hf tk (je_var 0)))))) (jb_one (js_expr (je_appendF (ga:=(aCons (fTup (aCons (fC (.str "end")) (aCons (fC (.str "forget")) aNil))) aNil)) (je_fld (T:=TT K) (fun _ => rfl) t.ic_Editor (by decide) (je_var 0)) (ja_cons (je_tup (ja_cons (je_glob (d:=(.str "end")) (v:=(.str "end")) rfl v_END ⟨t_END, rfl⟩ rfl) (ja_cons je_str ja_nil))) ja_nil)))) (fun a pn => (jb_one (js_expr (je_appendF (ga:=(aCons (fTup (aCons (fC (.str "end")) (aCons (fC (.str "forget")) aNil))) aNil)) (je_fld (T:=TT K) (fun _ => rfl) t.ic_Editor (by decide) (je_var 0)) (ja_cons (je_tup (ja_cons (je_glob (d:=(.str "end")) (v:=(.str "end")) rfl v_END ⟨t_END, rfl⟩ rfl) (ja_cons je_str ja_nil))) ja_nil))))))))
theorem sc_next_places : FnScope ["marks", "table", "present", "found", "place", "many"] ["marks", "table", "present"] (defScope s_next_places):=⟨rfl, rfl, rfl, by decide +kernel, rfl, by decide +kernel, by decide +kernel⟩
theorem ok_next_places (t : Tx K mg) : OkK (TT K) P w K mg base 4 "next_places" ["marks", "table", "present"] F_next_places:=by
 have O_fits:=ok_fits (P:=P) (w:=w) (base:=base) t
 have O_count_rest:=ok_count_rest (P:=P) (w:=w) (base:=base) t
 refine ok_defK (N:=["marks", "table", "present", "found", "place", "many"]) (g:=b_next_places) false t.d_next_places t.g_next_places sc_next_places (fun _ _ _ _ _ _ us hl => match us, hl with | [_, _, _], _ => rfl) fun cdv A outer s H E hr hf tk pw => ?_
 unfold b_next_places B_next_places
 exact (jb_cons (js_set (i:=3) sc_next_places.nd (je_cell (jl_lst ja_nil))) (jb_cons (js_for pw rfl (ji_range1 t.n_range (ja_cons (je_len t.n_len (ja_cons (je_var 0) ja_nil)) ja_nil)) (jg_name (i:=4) sc_next_places.nd) (jb_one (js_if (jt_of_jw (jw_and (jt_cmp (op_notInX (hu65 hr)) (l_in true) (je_var 4) (je_var 2) rfl) (jw_and1 (jt_val (je_apK O_fits (hr.mono (by first|decide|omega|(simp only[Nat.add_eq];omega))) hf tk (ja_cons (je_var 0) (ja_cons (je_var 2) (ja_cons (je_var 4) ja_nil)))))))) (jb_cons (js_set (i:=5) sc_next_places.nd (je_apK O_count_rest (hr.mono (by first|decide|omega|(simp only[Nat.add_eq];omega))) hf tk (ja_cons (je_var 1) (ja_cons (je_len t.n_len (ja_cons (je_var 0) ja_nil)) (ja_cons (je_add (je_var 2) (je_frz (jl_lst (ja_cons (je_var 4) ja_nil)))) ja_nil))))) (jb_one (js_if (jt_cmp (op_gt) l_gtI (je_var 5) je_int rfl) (jb_one (js_expr (je_append (je_var 3) (ja_cons (je_tup (ja_cons (je_var 4) (ja_cons (je_var 5) ja_nil))) ja_nil)))) jb_nil))) jb_nil))) (jb_one (js_ret (je_var 3)))))
theorem sc_sorted_next : FnScope ["items", "marks", "table", "present", "place", "many"] ["items", "marks", "table", "present"] (defScope s_sorted_next):=⟨rfl, rfl, rfl, by decide +kernel, rfl, by decide +kernel, by decide +kernel⟩
theorem ok_sorted_next (t : Tx K mg) : OkK (TT K) P w K mg base 5 "sorted_next" ["items", "marks", "table", "present"] F_sorted_next:=by
 have O_next_places:=ok_next_places (P:=P) (w:=w) (base:=base) t
 refine ok_defK (N:=["items", "marks", "table", "present", "place", "many"]) (g:=b_sorted_next) false t.d_sorted_next t.g_sorted_next sc_sorted_next (fun _ _ _ _ _ _ us hl => match us, hl with | [_, _, _, _], _ => rfl) fun cdv A outer s H E hr hf tk pw => ?_
 unfold b_sorted_next B_sorted_next
 exact (jb_one (js_ret (je_frz (jl_sortedR (hu65 hr) t.n_sorted (ja_cons (je_frz (jl_comp rfl sc_sorted_next.nd (ji_seq (je_apK O_next_places (hr.mono (by first|decide|omega|(simp only[Nat.add_eq];omega))) hf tk (ja_cons (je_var 1) (ja_cons (je_var 2) (ja_cons (je_var 3) ja_nil))))) (blkOk_by (own:=[("place", 4), ("many", 5)]) (by kernel_rfl)) (fun _ _ _ _ _ => (jc_tup (n:=2) rfl (jcs_cons (i:=4) sc_sorted_next.nd (jcs_cons (i:=5) sc_sorted_next.nd jcs_nil)))) (fun _ _ _ _ _ => jp_nil) (fun _ _ _ _ _ => (je_tup (ja_cons (je_ix (je_var 0) (je_var 4)) (ja_cons (je_var 4) (ja_cons (je_var 5) ja_nil))))))) ja_nil)))))
theorem sc_next_items : FnScope ["items", "anchors", "beginning", "marks", "present", "item", "place", "many"] ["items", "anchors", "beginning"] (defScope s_next_items):=⟨rfl, rfl, rfl, by decide +kernel, rfl, by decide +kernel, by decide +kernel⟩
theorem ok_next_items (t : Tx K mg) : OkK (TT K) P w K mg base 6 "next_items" ["items", "anchors", "beginning"] F_next_items:=by
 have O_marks_of:=ok_marks_of (P:=P) (w:=w) (base:=base) t
 have O_present_after:=ok_present_after (P:=P) (w:=w) (base:=base) t
 have O_sorted_next:=ok_sorted_next (P:=P) (w:=w) (base:=base) t
 have O_gap_table:=ok_gap_table (P:=P) (w:=w) (base:=base) t
 refine ok_defK (N:=["items", "anchors", "beginning", "marks", "present", "item", "place", "many"]) (g:=b_next_items) false t.d_next_items t.g_next_items sc_next_items (fun _ _ _ _ _ _ us hl => match us, hl with | [_, _, _], _ => rfl) fun cdv A outer s H E hr hf tk pw => ?_
 unfold b_next_items B_next_items
 exact (jb_cons (js_set (i:=3) sc_next_items.nd (je_apK O_marks_of (hr.mono (by first|decide|omega|(simp only[Nat.add_eq];omega))) hf tk (ja_cons (je_var 0) (ja_cons (je_var 1) ja_nil)))) (jb_cons (js_set (i:=4) sc_next_items.nd (je_apK O_present_after (hr.mono (by first|decide|omega|(simp only[Nat.add_eq];omega))) hf tk (ja_cons (je_var 0) (ja_cons (je_var 3) (ja_cons (je_var 2) ja_nil))))) (jb_cons (js_if (jt_cmp (op_isN) l_isN (je_var 4) je_non rfl) (jb_one (js_ret (je_frz (jl_lst ja_nil)))) jb_nil) (jb_one (js_ret (je_frz (jl_comp rfl sc_next_items.nd (ji_seq (je_apK O_sorted_next (hr.mono (by first|decide|omega|(simp only[Nat.add_eq];omega))) hf tk (ja_cons (je_var 0) (ja_cons (je_var 3) (ja_cons (je_apK O_gap_table (hr.mono (by first|decide|omega|(simp only[Nat.add_eq];omega))) hf tk (ja_cons (je_var 3) ja_nil)) (ja_cons (je_var 4) ja_nil)))))) (blkOk_by (own:=[("item", 5), ("place", 6), ("many", 7)]) (by kernel_rfl)) (fun _ _ _ _ _ => (jc_tup (n:=3) rfl (jcs_cons (i:=5) sc_next_items.nd (jcs_cons (i:=6) sc_next_items.nd (jcs_cons (i:=7) sc_next_items.nd jcs_nil))))) (fun _ _ _ _ _ => jp_nil) (fun _ _ _ _ _ => (je_var 5)))))))))
theorem sc_anchors_of : FnScope ["items", "order", "found", "place", "item", "time", "earlier", "other"] ["items", "order"] (defScope s_anchors_of):=⟨rfl, rfl, rfl, by decide +kernel, rfl, by decide +kernel, by decide +kernel⟩
theorem ok_anchors_of (t : Tx K mg) : OkK (TT K) P w K mg base 1 "anchors_of" ["items", "order"] F_anchors_of:=by
 refine ok_defK (N:=["items", "order", "found", "place", "item", "time", "earlier", "other"]) (g:=b_anchors_of) false t.d_anchors_of t.g_anchors_of sc_anchors_of (fun _ _ _ _ _ _ us hl => match us, hl with | [_, _], _ => rfl) fun cdv A outer s H E hr hf tk pw => ?_
 exact (jb_cons (js_set (i:=2) sc_anchors_of.nd (je_cell (jl_lst ja_nil))) (jb_cons (js_for pw rfl (ji_enum t.n_enumerate (ja_cons (je_var 0) ja_nil)) (jg_tup (n:=2) rfl (jgs_cons (i:=3) sc_anchors_of.nd (jgs_cons (i:=4) sc_anchors_of.nd jgs_nil))) (jb_cons (js_set (i:=5) sc_anchors_of.nd (je_index (je_var 1) (ja_cons (je_var 4) ja_nil))) (jb_cons (js_setL (i:=6) false rfl sc_anchors_of.nd (ji_seq (je_slice (je_var 0) jo_none (jo_some (je_var 3)))) (blkOk_by (own:=[("other", 7)]) (by kernel_rfl)) (fun _ _ _ _ _ => (jc_name (i:=7) sc_anchors_of.nd)) (fun _ _ _ _ _ => (jp_one (jt_cmp (op_lt) l_ltI (je_index (je_var 1) (ja_cons (je_var 7) ja_nil)) (je_var 5) rfl))) (fun _ _ _ _ _ => (je_var 7)) (sw_true rfl rfl rfl rfl)) (jb_one (js_expr (je_append (je_var 2) (ja_cons (je_if (jt_cmp (op_neD (hu64 hr)) l_neD (je_var 6) (je_frz (jl_lst ja_nil)) rfl) (je_ix (je_var 6) (je_neg je_int)) je_non) ja_nil))))))) (jb_one (js_ret (je_tuple t.n_tuple (ja_cons (je_var 2) ja_nil))))))
theorem sc_steps_of : FnScope ["items", "order", "anchors", "item"] ["items", "order"] (defScope s_steps_of):=⟨rfl, rfl, rfl, by decide +kernel, rfl, by decide +kernel, by decide +kernel⟩
theorem ok_steps_of (t : Tx K mg) : OkK (TT K) P w K mg base 2 "steps_of" ["items", "order"] F_steps_of:=by
 have O_anchors_of:=ok_anchors_of (P:=P) (w:=w) (base:=base) t
 refine ok_defK (N:=["items", "order", "anchors", "item"]) (g:=b_steps_of) false t.d_steps_of t.g_steps_of sc_steps_of (fun _ _ _ _ _ _ us hl => match us, hl with | [_, _], _ => rfl) fun cdv A outer s H E hr hf tk pw => ?_
 unfold b_steps_of B_steps_of
 exact (jb_cons (js_set (i:=2) sc_steps_of.nd (je_apK O_anchors_of (hr.mono (by first|decide|omega|(simp only[Nat.add_eq];omega))) hf tk (ja_cons (je_var 0) (ja_cons (je_var 1) ja_nil)))) (jb_one (js_ret (je_frz (jl_comp rfl sc_steps_of.nd (ji_seq (je_var 1)) (blkOk_by (own:=[("item", 3)]) (by kernel_rfl)) (fun _ _ _ _ _ => (jc_name (i:=3) sc_steps_of.nd)) (fun _ _ _ _ _ => jp_nil) (fun _ _ _ _ _ => (je_tup (ja_cons (je_var 3) (ja_cons (je_ix (je_var 2) (je_index (je_var 0) (ja_cons (je_var 3) ja_nil))) ja_nil)))))))))
theorem sc_is_integer : FnScope ["thing"] ["thing"] (defScope s_is_integer):=⟨rfl, rfl, rfl, by decide +kernel, rfl, by decide +kernel, by decide +kernel⟩
theorem ok_is_integer (t : Tx K mg) : OkK (TT K) P w K mg base 1 "is_integer" ["thing"] F_is_integer:=by
 refine ok_defK (N:=["thing"]) (g:=b_is_integer) false t.d_is_integer t.g_is_integer sc_is_integer (fun _ _ _ _ _ _ us hl => match us, hl with | [_], _ => rfl) fun cdv A outer s H E hr hf tk pw => ?_
 exact (jb_one (js_ret (je_and (je_isi cla_int boot_int t.n_isinstance t.n_int (je_var 0)) (je_one (je_not (je_isi cla_bool boot_bool t.n_isinstance t.n_bool (je_var 0)))))))
theorem sc_is_order : FnScope ["items", "thing", "item"] ["items", "thing"] (defScope s_is_order):=⟨rfl, rfl, rfl, by decide +kernel, rfl, by decide +kernel, by decide +kernel⟩
theorem ok_is_order (t : Tx K mg) : OkK (TT K) P w K mg base 2 "is_order" ["items", "thing"] F_is_order:=by
 have O_is_integer:=ok_is_integer (P:=P) (w:=w) (base:=base) t
 refine ok_defK (N:=["items", "thing", "item"]) (g:=b_is_order) false t.d_is_order t.g_is_order sc_is_order (fun _ _ _ _ _ _ us hl => match us, hl with | [_, _], _ => rfl) fun cdv A outer s H E hr hf tk pw => ?_
 unfold b_is_order B_is_order
 exact (jb_cons (js_if (jt_of_jw (jw_or (jt_not (jt_val (je_isi cla_tup boot_tuple t.n_isinstance t.n_tuple (je_var 1)))) (jw_or (jt_cmp (op_neD (hu64 hr)) l_neD (je_len t.n_len (ja_cons (je_var 1) ja_nil)) (je_len t.n_len (ja_cons (je_var 0) ja_nil)) rfl) (jw_or1 (jt_not (jt_val (je_all rfl t.n_all (ja_cons (je_frz (jl_comp rfl sc_is_order.nd (ji_seq (je_var 1)) (blkOk_by (own:=[("item", 2)]) (by kernel_rfl)) (fun _ _ _ _ _ => (jc_name (i:=2) sc_is_order.nd)) (fun _ _ _ _ _ => jp_nil) (fun _ _ _ _ _ => (je_apK O_is_integer (hr.mono (by first|decide|omega|(simp only[Nat.add_eq];omega))) hf tkB (ja_cons (je_var 2) ja_nil))))) ja_nil)))))))) (jb_one (js_ret je_bl)) jb_nil) (jb_one (js_ret (je_eq (hu64 hr) (je_frz (jl_sorted t.n_sorted (ja_cons (je_var 1) ja_nil))) (je_frz (jl_sorted t.n_sorted (ja_cons (je_var 0) ja_nil)))))))
theorem sc_shows_order : FnScope ["items", "anchors", "thing", "marks", "found", "known", "place"] ["items", "anchors", "thing"] (defScope s_shows_order):=⟨rfl, rfl, rfl, by decide +kernel, rfl, by decide +kernel, by decide +kernel⟩
theorem ok_shows_order (t : Tx K mg) : OkK (TT K) P w K mg base 3 "shows_order" ["items", "anchors", "thing"] F_shows_order:=by
 have O_is_order:=ok_is_order (P:=P) (w:=w) (base:=base) t
 have O_marks_of:=ok_marks_of (P:=P) (w:=w) (base:=base) t
 have O_anchors_of:=ok_anchors_of (P:=P) (w:=w) (base:=base) t
 refine ok_defK (N:=["items", "anchors", "thing", "marks", "found", "known", "place"]) (g:=b_shows_order) false t.d_shows_order t.g_shows_order sc_shows_order (fun _ _ _ _ _ _ us hl => match us, hl with | [_, _, _], _ => rfl) fun cdv A outer s H E hr hf tk pw => ?_
 unfold b_shows_order B_shows_order
 exact (jb_cons (js_if (jt_not (jt_val (je_apK O_is_order (hr.mono (by first|decide|omega|(simp only[Nat.add_eq];omega))) hf tk (ja_cons (je_var 0) (ja_cons (je_var 2) ja_nil))))) (jb_one (js_ret je_bl)) jb_nil) (jb_cons (js_par (i:=3) (j:=4) rfl sc_shows_order.nd (ja_cons (je_apK O_marks_of (hr.mono (by first|decide|omega|(simp only[Nat.add_eq];omega))) hf tk (ja_cons (je_var 0) (ja_cons (je_var 1) ja_nil))) (ja_cons (je_apK O_marks_of (hr.mono (by first|decide|omega|(simp only[Nat.add_eq];omega))) hf tk (ja_cons (je_var 0) (ja_cons (je_apK O_anchors_of (hr.mono (by first|decide|omega|(simp only[Nat.add_eq];omega))) hf tk (ja_cons (je_var 0) (ja_cons (je_var 2) ja_nil))) ja_nil))) ja_nil))) (jb_one (js_ret (je_all rfl t.n_all (ja_cons (je_frz (jl_comp rfl sc_shows_order.nd (ji_zip t.n_zip (ja_cons (je_var 3) (ja_cons (je_var 4) ja_nil))) (blkOk_by (own:=[("known", 5), ("place", 6)]) (by kernel_rfl)) (fun _ _ _ _ _ => (jc_tup (n:=2) rfl (jcs_cons (i:=5) sc_shows_order.nd (jcs_cons (i:=6) sc_shows_order.nd jcs_nil)))) (fun _ _ _ _ _ => jp_nil) (fun _ _ _ _ _ => (je_or (je_is (je_var 5) je_non) (je_one (je_eq (hu64 hr) (je_var 5) (je_var 6))))))) ja_nil))))))
theorem sc_is_wrong : FnScope ["marks", "place"] ["marks", "place"] (defScope s_is_wrong):=⟨rfl, rfl, rfl, by decide +kernel, rfl, by decide +kernel, by decide +kernel⟩
theorem ok_is_wrong (t : Tx K mg) : OkK (TT K) P w K mg base 1 "is_wrong" ["marks", "place"] F_is_wrong:=by
 refine ok_defK (N:=["marks", "place"]) (g:=b_is_wrong) false t.d_is_wrong t.g_is_wrong sc_is_wrong (fun _ _ _ _ _ _ us hl => match us, hl with | [_, _], _ => rfl) fun cdv A outer s H E hr hf tk pw => ?_
 exact (jb_one (js_ret (je_and (je_isnt (je_ix (je_var 0) (je_var 1)) je_non) (je_one (je_ge (je_ix (je_var 0) (je_var 1)) (je_var 1))))))
theorem sc_shows_wrong : FnScope ["items", "anchors", "thing"] ["items", "anchors", "thing"] (defScope s_shows_wrong):=⟨rfl, rfl, rfl, by decide +kernel, rfl, by decide +kernel, by decide +kernel⟩
theorem ok_shows_wrong (t : Tx K mg) : OkK (TT K) P w K mg base 2 "shows_wrong" ["items", "anchors", "thing"] F_shows_wrong:=by
 have O_is_integer:=ok_is_integer (P:=P) (w:=w) (base:=base) t
 have O_is_wrong:=ok_is_wrong (P:=P) (w:=w) (base:=base) t
 have O_marks_of:=ok_marks_of (P:=P) (w:=w) (base:=base) t
 refine ok_defK (N:=["items", "anchors", "thing"]) (g:=b_shows_wrong) false t.d_shows_wrong t.g_shows_wrong sc_shows_wrong (fun _ _ _ _ _ _ us hl => match us, hl with | [_, _, _], _ => rfl) fun cdv A outer s H E hr hf tk pw => ?_
 unfold b_shows_wrong B_shows_wrong
 exact (jb_one (js_ret (je_and (je_apK O_is_integer (hr.mono (by first|decide|omega|(simp only[Nat.add_eq];omega))) hf tk (ja_cons (je_var 2) ja_nil)) (je_and (je_in (hu65 hr) (je_var 2) (je_var 0)) (je_one (je_apK O_is_wrong (hr.mono (by first|decide|omega|(simp only[Nat.add_eq];omega))) hf tk (ja_cons (je_apK O_marks_of (hr.mono (by first|decide|omega|(simp only[Nat.add_eq];omega))) hf tk (ja_cons (je_var 0) (ja_cons (je_var 1) ja_nil))) (ja_cons (je_index (je_var 0) (ja_cons (je_var 2) ja_nil)) ja_nil))))))))
theorem sc_do_cross : FnScope ["marks", "place", "other"] ["marks", "place", "other"] (defScope s_do_cross):=⟨rfl, rfl, rfl, by decide +kernel, rfl, by decide +kernel, by decide +kernel⟩
theorem ok_do_cross (t : Tx K mg) : OkK (TT K) P w K mg base 2 "do_cross" ["marks", "place", "other"] F_do_cross:=by
 have O_is_wrong:=ok_is_wrong (P:=P) (w:=w) (base:=base) t
 refine ok_defK (N:=["marks", "place", "other"]) (g:=b_do_cross) false t.d_do_cross t.g_do_cross sc_do_cross (fun _ _ _ _ _ _ us hl => match us, hl with | [_, _, _], _ => rfl) fun cdv A outer s H E hr hf tk pw => ?_
 unfold b_do_cross B_do_cross
 exact (jb_cons (js_if (jt_of_jw (jw_or (jt_cmp (op_isN) l_isN (je_ix (je_var 0) (je_var 1)) je_non rfl) (jw_or (jt_cmp (op_isN) l_isN (je_ix (je_var 0) (je_var 2)) je_non rfl) (jw_or (jt_val (je_apK O_is_wrong (hr.mono (by first|decide|omega|(simp only[Nat.add_eq];omega))) hf tk (ja_cons (je_var 0) (ja_cons (je_var 1) ja_nil)))) (jw_or1 (jt_val (je_apK O_is_wrong (hr.mono (by first|decide|omega|(simp only[Nat.add_eq];omega))) hf tk (ja_cons (je_var 0) (ja_cons (je_var 2) ja_nil))))))))) (jb_one (js_ret je_bl)) jb_nil) (jb_one (js_ret (je_and (je_chain (op_lt) l_ltI (op_lt) l_ltI (je_ix (je_var 0) (je_var 1)) (je_var 2) (je_var 1)) (je_one (je_lt (je_ix (je_var 0) (je_var 2)) (je_ix (je_var 0) (je_var 1))))))))
theorem sc_shows_crossing : FnScope ["items", "anchors", "thing", "item"] ["items", "anchors", "thing"] (defScope s_shows_crossing):=⟨rfl, rfl, rfl, by decide +kernel, rfl, by decide +kernel, by decide +kernel⟩
theorem ok_shows_crossing (t : Tx K mg) : OkK (TT K) P w K mg base 3 "shows_crossing" ["items", "anchors", "thing"] F_shows_crossing:=by
 obtain ⟨t_PAIR, v_PAIR⟩:=t.v_PAIR
 have O_do_cross:=ok_do_cross (P:=P) (w:=w) (base:=base) t
 have O_marks_of:=ok_marks_of (P:=P) (w:=w) (base:=base) t
 have O_is_integer:=ok_is_integer (P:=P) (w:=w) (base:=base) t
 refine ok_defK (N:=["items", "anchors", "thing", "item"]) (g:=b_shows_crossing) false t.d_shows_crossing t.g_shows_crossing sc_shows_crossing (fun _ _ _ _ _ _ us hl => match us, hl with | [_, _, _], _ => rfl) fun cdv A outer s H E hr hf tk pw => ?_
 unfold b_shows_crossing B_shows_crossing
 exact (jb_cons (js_if (jt_of_jw (jw_or (jt_not (jt_val (je_isi cla_tup boot_tuple t.n_isinstance t.n_tuple (je_var 2)))) (jw_or (jt_cmp (op_neD (hu64 hr)) l_neD (je_len t.n_len (ja_cons (je_var 2) ja_nil)) (je_glob (d:=(.int 2)) (v:=(.int 2)) rfl v_PAIR ⟨t_PAIR, rfl⟩ rfl) rfl) (jw_or1 (jt_not (jt_val (je_all rfl t.n_all (ja_cons (je_frz (jl_comp rfl sc_shows_crossing.nd (ji_seq (je_var 2)) (blkOk_by (own:=[("item", 3)]) (by kernel_rfl)) (fun _ _ _ _ _ => (jc_name (i:=3) sc_shows_crossing.nd)) (fun _ _ _ _ _ => jp_nil) (fun _ _ _ _ _ => (je_apK O_is_integer (hr.mono (by first|decide|omega|(simp only[Nat.add_eq];omega))) hf tkB (ja_cons (je_var 3) ja_nil))))) ja_nil)))))))) (jb_one (js_ret je_bl)) jb_nil) (jb_cons (js_if (jt_not (jt_val (je_all rfl t.n_all (ja_cons (je_frz (jl_comp rfl sc_shows_crossing.nd (ji_seq (je_var 2)) (blkOk_by (own:=[("item", 3)]) (by kernel_rfl)) (fun _ _ _ _ _ => (jc_name (i:=3) sc_shows_crossing.nd)) (fun _ _ _ _ _ => jp_nil) (fun _ _ _ _ _ => (je_in (hu65 hr) (je_var 3) (je_var 0))))) ja_nil)))) (jb_one (js_ret je_bl)) jb_nil) (jb_one (js_ret (je_apK O_do_cross (hr.mono (by first|decide|omega|(simp only[Nat.add_eq];omega))) hf tk (ja_cons (je_apK O_marks_of (hr.mono (by first|decide|omega|(simp only[Nat.add_eq];omega))) hf tk (ja_cons (je_var 0) (ja_cons (je_var 1) ja_nil))) (ja_cons (je_index (je_var 0) (ja_cons (je_ix (je_var 2) je_int) ja_nil)) (ja_cons (je_index (je_var 0) (ja_cons (je_ix (je_var 2) je_int) ja_nil)) ja_nil))))))))
theorem sc__law_equal : FnScope ["_law_found", "_law_due", "_law_lone", "_law_mate"] ["_law_found", "_law_due"] (defScope s__law_equal):=⟨rfl, rfl, rfl, by decide +kernel, rfl, by decide +kernel, by decide +kernel⟩
theorem ok__law_equal (t : Tx K mg) : ∀ n : Nat, OkK (TT K) P w K mg base (0 + n) "_law_equal" ["_law_found", "_law_due"] (F__law_equal n)
 | 0 => okK_bad t.d__law_equal t.g__law_equal (fun _ _ _ _ _ _ us hl => match us, hl with | [_, _], _ => rfl) _
 | n + 1 => by
  have O__law_equal:=ok__law_equal t n
  refine ok_defK (N:=["_law_found", "_law_due", "_law_lone", "_law_mate"]) (g:=b__law_equal (F__law_equal n)) false t.d__law_equal t.g__law_equal sc__law_equal (fun _ _ _ _ _ _ us hl => match us, hl with | [_, _], _ => rfl) fun cdv A outer s H E hr hf tk pw => ?_
  exact (jb_cons (js_if (jt_val (je_isi2 cla_list cla_tup boot_list boot_tuple t.n_isinstance t.n_list t.n_tuple (je_var 1))) (jb_cons (js_if (jt_of_jw (jw_or (jt_cmp (op_neD (hu64 hr)) l_neD (je_isi cla_list boot_list t.n_isinstance t.n_list (je_var 0)) (je_isi cla_list boot_list t.n_isinstance t.n_list (je_var 1)) rfl) (jw_or1 (jt_cmp (op_neD (hu64 hr)) l_neD (je_isi cla_tup boot_tuple t.n_isinstance t.n_tuple (je_var 0)) (je_isi cla_tup boot_tuple t.n_isinstance t.n_tuple (je_var 1)) rfl)))) (jb_one (js_ret je_bl)) jb_nil) (jb_one (js_ret (je_and (je_eq (hu64 hr) (je_len t.n_len (ja_cons (je_var 0) ja_nil)) (je_len t.n_len (ja_cons (je_var 1) ja_nil))) (je_one (je_all rfl t.n_all (ja_cons (je_frz (jl_comp rfl sc__law_equal.nd (ji_zip t.n_zip (ja_cons (je_var 0) (ja_cons (je_var 1) ja_nil))) (blkOk_by (own:=[("_law_lone", 2), ("_law_mate", 3)]) (by kernel_rfl)) (fun _ _ _ _ _ => (jc_tup (n:=2) rfl (jcs_cons (i:=2) sc__law_equal.nd (jcs_cons (i:=3) sc__law_equal.nd jcs_nil)))) (fun _ _ _ _ _ => jp_nil) (fun _ _ _ _ _ => (je_apK O__law_equal hr hf tkB (ja_cons (je_var 2) (ja_cons (je_var 3) ja_nil)))))) ja_nil))))))) jb_nil) (jb_cons (js_if (jt_of_jw (jw_or (jt_cmp (op_isN) l_isN (je_var 1) je_non rfl) (jw_or1 (jt_val (je_isi cla_str boot_str t.n_isinstance t.n_str (je_var 1)))))) (jb_one (js_ret (je_and (je_eq (hu64 hr) (je_var 0) (je_var 1)) (je_one (je_eq (hu64 hr) (je_isi cla_str boot_str t.n_isinstance t.n_str (je_var 0)) (je_isi cla_str boot_str t.n_isinstance t.n_str (je_var 1))))))) jb_nil) (jb_one (js_ret (je_and (je_isi cla_int boot_int t.n_isinstance t.n_int (je_var 0)) (je_and (je_eq (hu64 hr) (je_isi cla_bool boot_bool t.n_isinstance t.n_bool (je_var 0)) (je_isi cla_bool boot_bool t.n_isinstance t.n_bool (je_var 1))) (je_one (je_eq (hu64 hr) (je_var 0) (je_var 1)))))))))
theorem sc_Editor___eq__ : FnScope ["self", "other"] ["self", "other"] (defScope s_Editor___eq__):=⟨rfl, rfl, rfl, by decide +kernel, rfl, by decide +kernel, by decide +kernel⟩
theorem ok_Editor___eq__ (t : Tx K mg) : OkM (TT K) P w K mg base 1 "Editor" "__eq__" ["self", "other"] [] F_Editor___eq__:=by
 refine ok_defM (N:=["self", "other"]) (g:=b_Editor___eq__) false t.d_Editor___eq__ t.cls_Editor t.m_Editor___eq__ sc_Editor___eq__ (fun fd F => F.bindsN (fun _ _ _ _ _ _ us hl => match us, hl with | [_, _], _ => rfl)) (fun fd F => ⟨[], [], rfl, .nil, F.bindsN (fun _ _ _ _ _ _ us hl => match us, hl with | [_, _], _ => rfl)⟩) fun cdv A outer s H E hr hf tk pw => ?_
 exact (jb_cons (js_if (jt_not (jt_val (je_isI (T:=TT K) (fun _ => rfl) t.cls_Editor t.ins_Editor t.n_isinstance t.g_Editor (je_var 1)))) (jb_one (js_ret je_bl)) jb_nil) (jb_one (js_ret (je_eq (hu64 hr) (je_ix (je_fld (T:=TT K) (fun _ => rfl) t.ic_Editor (by decide) (je_var 0)) (je_neg je_int)) (je_ix (je_fld (T:=TT K) (fun _ => rfl) t.ic_Editor (by decide) (je_var 1)) (je_neg je_int))))))
theorem sc__law_classes : FnScope ["_law_wrong", "_law_some"] ["_law_wrong"] (defScope s__law_classes):=⟨rfl, rfl, rfl, by decide +kernel, rfl, by decide +kernel, by decide +kernel⟩
theorem ok__law_classes (t : Tx K mg) : OkK (TT K) P w K mg base 1 "_law_classes" ["_law_wrong"] F__law_classes:=by
 refine ok_defK (N:=["_law_wrong", "_law_some"]) (g:=b__law_classes) false t.d__law_classes t.g__law_classes sc__law_classes (fun _ _ _ _ _ _ us hl => match us, hl with | [_], _ => rfl) fun cdv A outer s H E hr hf tk pw => ?_
 exact (jb_cons (js_set (i:=1) sc__law_classes.nd (je_frz (jl_lst (ja_cons (je_isXo (y:="BadLine") t.ext (by decide) t.n_isinstance t.g_BadLine (je_var 0)) (ja_cons (je_isXo (y:="BadText") t.ext (by decide) t.n_isinstance t.g_BadText (je_var 0)) (ja_cons (je_isXo (y:="Duplicate") t.ext (by decide) t.n_isinstance t.g_Duplicate (je_var 0)) ja_nil)))))) (jb_cons (js_set (i:=1) sc__law_classes.nd (je_add (je_var 1) (je_frz (jl_lst (ja_cons (je_isXo (y:="Full") t.ext (by decide) t.n_isinstance t.g_Full (je_var 0)) ja_nil))))) (jb_cons (js_set (i:=1) sc__law_classes.nd (je_add (je_var 1) (je_frz (jl_lst (ja_cons (je_isXo (y:="Impossible") t.ext (by decide) t.n_isinstance t.g_Impossible (je_var 0)) (ja_cons (je_isXo (y:="Misfit") t.ext (by decide) t.n_isinstance t.g_Misfit (je_var 0)) (ja_cons (je_isXo (y:="Missing") t.ext (by decide) t.n_isinstance t.g_Missing (je_var 0)) ja_nil))))))) (jb_cons (js_set (i:=1) sc__law_classes.nd (je_add (je_var 1) (je_frz (jl_lst (ja_cons (je_isXo (y:="NoItem") t.ext (by decide) t.n_isinstance t.g_NoItem (je_var 0)) (ja_cons (je_isXo (y:="NoOrder") t.ext (by decide) t.n_isinstance t.g_NoOrder (je_var 0)) (ja_cons (je_isXo (y:="NoState") t.ext (by decide) t.n_isinstance t.g_NoState (je_var 0)) ja_nil))))))) (jb_cons (js_set (i:=1) sc__law_classes.nd (je_add (je_var 1) (je_frz (jl_lst (ja_cons (je_isXo (y:="NotLast") t.ext (by decide) t.n_isinstance t.g_NotLast (je_var 0)) (ja_cons (je_isXo (y:="NoWay") t.ext (by decide) t.n_isinstance t.g_NoWay (je_var 0)) (ja_cons (je_isXo (y:="TooMany") t.ext (by decide) t.n_isinstance t.g_TooMany (je_var 0)) ja_nil))))))) (jb_one (js_ret (je_count (je_var 1) (ja_cons je_bl ja_nil)))))))))
theorem sc__law_base : FnScope ["_law_wrong", "_law_some", "_law_lower"] ["_law_wrong"] (defScope s__law_base):=⟨rfl, rfl, rfl, by decide +kernel, rfl, by decide +kernel, by decide +kernel⟩
theorem ok__law_base (t : Tx K mg) : OkK (TT K) P w K mg base 1 "_law_base" ["_law_wrong"] F__law_base:=by
 refine ok_defK (N:=["_law_wrong", "_law_some", "_law_lower"]) (g:=b__law_base) false t.d__law_base t.g__law_base sc__law_base (fun _ _ _ _ _ _ us hl => match us, hl with | [_], _ => rfl) fun cdv A outer s H E hr hf tk pw => ?_
 exact (jb_cons (js_set (i:=1) sc__law_base.nd (je_cell (jl_lst (ja_cons (je_isXb (y:="ValueError") t.ext (by decide) bt_V t.n_isinstance t.n_ValueError (je_var 0)) (ja_cons (je_isXb (y:="LookupError") t.ext (by decide) bt_L t.n_isinstance t.n_LookupError (je_var 0)) (ja_cons (je_isXb (y:="RuntimeError") t.ext (by decide) bt_R t.n_isinstance t.n_RuntimeError (je_var 0)) ja_nil)))))) (jb_cons (js_expr (je_append (je_var 1) (ja_cons (je_isXb (y:="OverflowError") t.ext (by decide) bt_O t.n_isinstance t.n_OverflowError (je_var 0)) ja_nil))) (jb_cons (js_set (i:=2) sc__law_base.nd (je_isXTb ["KeyError", "IndexError", "ZeroDivisionError", "NotImplementedError"] t.ext (by decide) (pa_cons (pe_bltn rfl t.n_KeyError bt_KeyError (show RelV (.ty "KeyError") (.type "KeyError") from rfl) (by decide) (by decide)) (pa_cons (pe_bltn rfl t.n_IndexError bt_IndexError (show RelV (.ty "IndexError") (.type "IndexError") from rfl) (by decide) (by decide)) (pa_cons (pe_bltn rfl t.n_ZeroDivisionError bt_ZeroDivisionError (show RelV (.ty "ZeroDivisionError") (.type "ZeroDivisionError") from rfl) (by decide) (by decide)) (pa_cons (pe_bltn rfl t.n_NotImplementedError bt_NotImplementedError (show RelV (.ty "NotImplementedError") (.type "NotImplementedError") from rfl) (by decide) (by decide)) pa_nil rfl) rfl) rfl) rfl) (by decide) t.n_isinstance (je_var 0))) (jb_one (js_ret (je_if (jt_of_jw (jw_and (jt_cmp (op_eqD (hu64 hr)) l_eqD (je_count (je_var 1) (ja_cons je_bl ja_nil)) je_int rfl) (jw_and1 (jt_not (jt_val (je_var 2)))))) (je_index (je_var 1) (ja_cons je_bl ja_nil)) je_non))))))
theorem sc__law_errors_right : FnScope ["_law_mine", "_law_some", "_law_named", "_law_both", "_law_fields", "_law_wrong"] ["_law_mine"] (defScope s__law_errors_right):=⟨rfl, rfl, rfl, by decide +kernel, rfl, by decide +kernel, by decide +kernel⟩
theorem ok__law_errors_right (t : Tx K mg) : OkK (TT K) P w K mg base 9 "_law_errors_right" ["_law_mine"] F__law_errors_right:=by
 have O__law_classes:=ok__law_classes (P:=P) (w:=w) (base:=base) t
 have O__law_base:=ok__law_base (P:=P) (w:=w) (base:=base) t
 have O__law_equal:=ok__law_equal (P:=P) (w:=w) (base:=base) t 8
 refine ok_defK (N:=["_law_mine", "_law_some", "_law_named", "_law_both", "_law_fields", "_law_wrong"]) (g:=b__law_errors_right) false t.d__law_errors_right t.g__law_errors_right sc__law_errors_right (fun _ _ _ _ _ _ us hl => match us, hl with | [_], _ => rfl) fun cdv A outer s H E hr hf tk pw => ?_
 unfold b__law_errors_right B__law_errors_right
 exact (jb_cons (js_set (i:=1) sc__law_errors_right.nd (je_dispX (ja_cons (je_mkx1 (T:=TT K) rfl (xc_Duplicate (P:=P) (w:=w) (base:=base) t) (hr.mono (by first|decide|omega|(simp only[Nat.add_eq];omega))) (ja_cons (je_var 0) ja_nil)) (ja_cons (je_mkx1 (T:=TT K) rfl (xc_Misfit (P:=P) (w:=w) (base:=base) t) (hr.mono (by first|decide|omega|(simp only[Nat.add_eq];omega))) (ja_cons (je_var 0) ja_nil)) (ja_cons (je_mkx1 (T:=TT K) rfl (xc_NotLast (P:=P) (w:=w) (base:=base) t) (hr.mono (by first|decide|omega|(simp only[Nat.add_eq];omega))) (ja_cons (je_var 0) ja_nil)) (ja_cons (je_mkx1 (T:=TT K) rfl (xc_BadText (P:=P) (w:=w) (base:=base) t) (hr.mono (by first|decide|omega|(simp only[Nat.add_eq];omega))) (ja_cons (je_var 0) ja_nil)) ja_nil)))))) (jb_cons (js_set (i:=1) sc__law_errors_right.nd (je_catX (je_var 1) (je_dispX (ja_cons (je_mkx1 (T:=TT K) rfl (xc_BadLine (P:=P) (w:=w) (base:=base) t) (hr.mono (by first|decide|omega|(simp only[Nat.add_eq];omega))) (ja_cons (je_var 0) ja_nil)) (ja_cons (je_mkx1 (T:=TT K) rfl (xc_Missing (P:=P) (w:=w) (base:=base) t) (hr.mono (by first|decide|omega|(simp only[Nat.add_eq];omega))) (ja_cons (je_var 0) ja_nil)) ja_nil))))) (jb_cons (js_set (i:=1) sc__law_errors_right.nd (je_catX (je_var 1) (je_dispX (ja_cons (je_mkx1 (T:=TT K) rfl (xc_NoItem (P:=P) (w:=w) (base:=base) t) (hr.mono (by first|decide|omega|(simp only[Nat.add_eq];omega))) (ja_cons (je_var 0) ja_nil)) (ja_cons (je_mkx1 (T:=TT K) rfl (xc_NoOrder (P:=P) (w:=w) (base:=base) t) (hr.mono (by first|decide|omega|(simp only[Nat.add_eq];omega))) (ja_cons (je_var 0) ja_nil)) (ja_cons (je_mkx1 (T:=TT K) rfl (xc_NoState (P:=P) (w:=w) (base:=base) t) (hr.mono (by first|decide|omega|(simp only[Nat.add_eq];omega))) (ja_cons (je_var 0) ja_nil)) (ja_cons (je_mkx1 (T:=TT K) rfl (xc_NoWay (P:=P) (w:=w) (base:=base) t) (hr.mono (by first|decide|omega|(simp only[Nat.add_eq];omega))) (ja_cons (je_var 0) ja_nil)) (ja_cons (je_mkx1 (T:=TT K) rfl (xc_TooMany (P:=P) (w:=w) (base:=base) t) (hr.mono (by first|decide|omega|(simp only[Nat.add_eq];omega))) (ja_cons (je_var 0) ja_nil)) (ja_cons (je_mkx1 (T:=TT K) rfl (xc_Full (P:=P) (w:=w) (base:=base) t) (hr.mono (by first|decide|omega|(simp only[Nat.add_eq];omega))) (ja_cons (je_var 0) ja_nil)) ja_nil))))))))) (jb_cons (js_set (i:=2) sc__law_errors_right.nd (je_dispX (ja_cons (je_mkxK (T:=TT K) rfl (xk_Duplicate (P:=P) (w:=w) (base:=base) t) (hr.mono (by first|decide|omega|(simp only[Nat.add_eq];omega))) (jk_cons (je_var 0) jk_nil)) (ja_cons (je_mkxK (T:=TT K) rfl (xk_Misfit (P:=P) (w:=w) (base:=base) t) (hr.mono (by first|decide|omega|(simp only[Nat.add_eq];omega))) (jk_cons (je_var 0) jk_nil)) (ja_cons (je_mkxK (T:=TT K) rfl (xk_NotLast (P:=P) (w:=w) (base:=base) t) (hr.mono (by first|decide|omega|(simp only[Nat.add_eq];omega))) (jk_cons (je_var 0) jk_nil)) ja_nil))))) (jb_cons (js_set (i:=2) sc__law_errors_right.nd (je_catX (je_var 2) (je_dispX (ja_cons (je_mkxK (T:=TT K) rfl (xk_BadText (P:=P) (w:=w) (base:=base) t) (hr.mono (by first|decide|omega|(simp only[Nat.add_eq];omega))) (jk_cons (je_var 0) jk_nil)) ja_nil)))) (jb_cons (js_set (i:=2) sc__law_errors_right.nd (je_catX (je_var 2) (je_dispX (ja_cons (je_mkxK (T:=TT K) rfl (xk_BadLine (P:=P) (w:=w) (base:=base) t) (hr.mono (by first|decide|omega|(simp only[Nat.add_eq];omega))) (jk_cons (je_var 0) jk_nil)) (ja_cons (je_mkxK (T:=TT K) rfl (xk_Missing (P:=P) (w:=w) (base:=base) t) (hr.mono (by first|decide|omega|(simp only[Nat.add_eq];omega))) (jk_cons (je_var 0) jk_nil)) (ja_cons (je_mkxK (T:=TT K) rfl (xk_NoItem (P:=P) (w:=w) (base:=base) t) (hr.mono (by first|decide|omega|(simp only[Nat.add_eq];omega))) (jk_cons (je_var 0) jk_nil)) (ja_cons (je_mkxK (T:=TT K) rfl (xk_NoOrder (P:=P) (w:=w) (base:=base) t) (hr.mono (by first|decide|omega|(simp only[Nat.add_eq];omega))) (jk_cons (je_var 0) jk_nil)) ja_nil))))))) (jb_cons (js_set (i:=2) sc__law_errors_right.nd (je_catX (je_var 2) (je_dispX (ja_cons (je_mkxK (T:=TT K) rfl (xk_NoState (P:=P) (w:=w) (base:=base) t) (hr.mono (by first|decide|omega|(simp only[Nat.add_eq];omega))) (jk_cons (je_var 0) jk_nil)) (ja_cons (je_mkxK (T:=TT K) rfl (xk_NoWay (P:=P) (w:=w) (base:=base) t) (hr.mono (by first|decide|omega|(simp only[Nat.add_eq];omega))) (jk_cons (je_var 0) jk_nil)) (ja_cons (je_mkxK (T:=TT K) rfl (xk_TooMany (P:=P) (w:=w) (base:=base) t) (hr.mono (by first|decide|omega|(simp only[Nat.add_eq];omega))) (jk_cons (je_var 0) jk_nil)) (ja_cons (je_mkxK (T:=TT K) rfl (xk_Full (P:=P) (w:=w) (base:=base) t) (hr.mono (by first|decide|omega|(simp only[Nat.add_eq];omega))) (jk_cons (je_var 0) jk_nil)) ja_nil))))))) (jb_cons (js_forW pw rfl (ja_cons (je_var 1) (ja_cons (je_var 2) ja_nil)) (jg_name (i:=3) sc__law_errors_right.nd) (jb_cons (js_set (i:=4) sc__law_errors_right.nd (je_frz (jl_lst (ja_cons (je_xf t.ext (by decide) (je_ixX (je_var 3) je_int)) (ja_cons (je_xf t.ext (by decide) (je_ixX (je_var 3) je_int)) (ja_cons (je_xf t.ext (by decide) (je_ixX (je_var 3) je_int)) (ja_cons (je_xf t.ext (by decide) (je_ixX (je_var 3) je_int)) (ja_cons (je_xf t.ext (by decide) (je_ixX (je_var 3) je_int)) (ja_cons (je_xf t.ext (by decide) (je_ixX (je_var 3) je_int)) ja_nil))))))))) (jb_cons (js_set (i:=4) sc__law_errors_right.nd (je_add (je_var 4) (je_frz (jl_lst (ja_cons (je_xf t.ext (by decide) (je_ixX (je_var 3) je_int)) (ja_cons (je_xf t.ext (by decide) (je_ixX (je_var 3) je_int)) (ja_cons (je_xf t.ext (by decide) (je_ixX (je_var 3) je_int)) (ja_cons (je_xf t.ext (by decide) (je_ixX (je_var 3) je_int)) (ja_cons (je_xf t.ext (by decide) (je_ixX (je_var 3) je_int)) (ja_cons (je_xf t.ext (by decide) (je_ixX (je_var 3) je_int)) ja_nil)))))))))) (jb_cons (js_if (jt_of_jw (jw_or (jt_not (jt_val (je_apK O__law_equal (hr.mono (by first|decide|omega|(simp only[Nat.add_eq];omega))) hf tk (ja_cons (je_var 4) (ja_cons (je_mul (je_frz (jl_lst (ja_cons (je_var 0) ja_nil))) je_int) ja_nil))))) (jw_or1 (jt_cmp (op_neD (hu64 hr)) l_neD (je_frz (jl_compX (i:=5) rfl sc__law_errors_right.nd (je_var 3) (blkOk_by (own:=[("_law_wrong", 5)]) (by kernel_rfl)) (fun _ _ _ _ _ => pg_name sc__law_errors_right.nd rfl (by first | exact Or.inl rfl | exact Or.inr rfl) (by first | exact .inl rfl | exact .inr rfl)) (fun _ _ _ _ _ => (je_apK O__law_classes (hr.mono (by first|decide|omega|(simp only[Nat.add_eq];omega))) hf tkB (ja_cons (je_var 5) ja_nil))))) (je_mul (je_frz (jl_lst (ja_cons je_int ja_nil))) je_int) rfl)))) (jb_one (js_ret je_bl)) jb_nil) (jb_one (js_if (jt_cmp (op_neD (hu64 hr)) l_neD (je_frz (jl_compX (i:=5) rfl sc__law_errors_right.nd (je_var 3) (blkOk_by (own:=[("_law_wrong", 5)]) (by kernel_rfl)) (fun _ _ _ _ _ => pg_name sc__law_errors_right.nd rfl (by first | exact Or.inl rfl | exact Or.inr rfl) (by first | exact .inl rfl | exact .inr rfl)) (fun _ _ _ _ _ => (je_apK O__law_base (hr.mono (by first|decide|omega|(simp only[Nat.add_eq];omega))) hf tkB (ja_cons (je_var 5) ja_nil))))) (je_add (je_add (je_add (je_mul (je_frz (jl_lst (ja_cons je_int ja_nil))) je_int) (je_mul (je_frz (jl_lst (ja_cons je_int ja_nil))) je_int)) (je_frz (jl_lst (ja_cons je_int ja_nil)))) (je_mul (je_frz (jl_lst (ja_cons je_int ja_nil))) je_int)) rfl) (jb_one (js_ret je_bl)) jb_nil)))))) (jb_one (js_ret (je_eq (hu64 hr) (je_frz (jl_lst (ja_cons (je_apK O__law_classes (hr.mono (by first|decide|omega|(simp only[Nat.add_eq];omega))) hf tk (ja_cons (je_mkx0 (T:=TT K) rfl (xc_Impossible (P:=P) (w:=w) (base:=base) t) (hr.mono (by first|decide|omega|(simp only[Nat.add_eq];omega)))) ja_nil)) (ja_cons (je_apK O__law_base (hr.mono (by first|decide|omega|(simp only[Nat.add_eq];omega))) hf tk (ja_cons (je_mkx0 (T:=TT K) rfl (xc_Impossible (P:=P) (w:=w) (base:=base) t) (hr.mono (by first|decide|omega|(simp only[Nat.add_eq];omega)))) ja_nil)) ja_nil)))) (je_frz (jl_lst (ja_cons je_int (ja_cons je_int ja_nil)))))))))))))))
theorem sc_Editor_operations : FnScope ["self"] ["self"] (defScope s_Editor_operations):=⟨rfl, rfl, rfl, by decide +kernel, rfl, by decide +kernel, by decide +kernel⟩
theorem ok_Editor_operations (t : Tx K mg) : OkM (TT K) P w K mg base 1 "Editor" "operations" ["self"] [] F_Editor_operations:=by
 refine ok_defM (N:=["self"]) (g:=b_Editor_operations) false t.d_Editor_operations t.cls_Editor t.m_Editor_operations sc_Editor_operations (fun fd F => F.bindsN (fun _ _ _ _ _ _ us hl => match us, hl with | [_], _ => rfl)) (fun fd F => ⟨[], [], rfl, .nil, F.bindsN (fun _ _ _ _ _ _ us hl => match us, hl with | [_], _ => rfl)⟩) fun cdv A outer s H E hr hf tk pw => ?_
 exact (jb_one (js_ret (je_sub (je_len t.n_len (ja_cons (je_fld (T:=TT K) (fun _ => rfl) t.ic_Editor (by decide) (je_var 0)) ja_nil)) je_int)))
theorem sc_Editor_as_of : FnScope ["self", "many", "other"] ["self", "many"] (defScope s_Editor_as_of):=⟨rfl, rfl, rfl, by decide +kernel, rfl, by decide +kernel, by decide +kernel⟩
theorem ok_Editor_as_of (t : Tx K mg) : OkM (TT K) P w K mg base 3 "Editor" "as_of" ["self", "many"] [] F_Editor_as_of:=by
 have O_Editor_operations:=ok_Editor_operations (P:=P) (w:=w) (base:=base) t
 refine ok_defM (N:=["self", "many", "other"]) (g:=b_Editor_as_of) false t.d_Editor_as_of t.cls_Editor t.m_Editor_as_of sc_Editor_as_of (fun fd F => F.bindsN (fun _ _ _ _ _ _ us hl => match us, hl with | [_, _], _ => rfl)) (fun fd F => ⟨[], [], rfl, .nil, F.bindsN (fun _ _ _ _ _ _ us hl => match us, hl with | [_, _], _ => rfl)⟩) fun cdv A outer s H E hr hf tk pw => ?_
 unfold b_Editor_as_of B_Editor_as_of
 exact (jb_cons (js_if (jt_not (jt_chain (op_le) l_leI (op_le) l_leI je_int (je_var 1) (je_met0 (T:=TT K) (fun _ => rfl) O_Editor_operations (hr.mono (by first|decide|omega|(simp only[Nat.add_eq];omega))) hf tk (je_var 0)))) (jb_one (js_raise1 (T:=TT K) (fun _ => rfl) (xc_NoState (P:=P) (w:=w) (base:=base) t) rfl tk (hr.mono (by first|decide|omega|(simp only[Nat.add_eq];omega))) (ja_cons (je_var 1) ja_nil))) jb_nil) (jb_mkSet (T:=TT K) (i:=2) (fun _ => rfl) t.mk_Editor (ini_Editor (P:=P) (w:=w) (base:=base) t).choose_spec.1 (hr.mono (by first|decide|omega|(simp only[Nat.add_eq];omega))) t.g_Editor (ini_Editor (P:=P) (w:=w) (base:=base) t).choose_spec.2 tk t.cls_Editor (t.ic_Editor.no _ (by decide)) (by decide) sc_Editor_as_of.nd (jl_slice (je_fld (T:=TT K) (fun _ => rfl) t.ic_Editor (by decide) (je_var 0)) jo_none (jo_some (je_add (je_var 1) je_int))) (jb_one (js_ret (je_var 2)))))
theorem sc__law_draw : FnScope ["_law_source_here", "_law_bound", "_law_once", "_law_found"] ["_law_source_here", "_law_bound"] (defScope s__law_draw):=⟨rfl, rfl, rfl, by decide +kernel, rfl, by decide +kernel, by decide +kernel⟩
theorem ok__law_draw (t : Tx K mg) : ∀ n : Nat, OkK (TT K) P w K mg base (0 + n) "_law_draw" ["_law_source_here", "_law_bound"] (F__law_draw n)
 | 0 => okK_bad t.d__law_draw t.g__law_draw (fun _ _ _ _ _ _ us hl => match us, hl with | [_, _], _ => rfl) _
 | n + 1 => by
  have O__law_draw:=ok__law_draw t n
  refine ok_defK (N:=["_law_source_here", "_law_bound", "_law_once", "_law_found"]) (g:=b__law_draw (F__law_draw n)) false t.d__law_draw t.g__law_draw sc__law_draw (fun _ _ _ _ _ _ us hl => match us, hl with | [_, _], _ => rfl) fun cdv A outer s H E hr hf tk pw => ?_
  exact (jb_cons (js_if (jt_cmp (op_gt) l_gtI (je_ix (je_var 0) je_int) je_int rfl) (jb_cons (js_set (i:=3) sc__law_draw.nd (je_mod (je_ix (je_var 0) je_int) (je_var 1))) (jb_cons (js_asg (je_div (je_ix (je_var 0) je_int) (je_var 1)) (jg_sub (hu1 hr) (je_var 0) je_int)) (jb_one (js_ret (je_var 3))))) jb_nil) (jb_cons (js_if (jt_cmp (op_gt) l_gtI (je_var 1) (je_pow je_int je_int) rfl) (jb_one (js_ret (je_mod (je_add (je_apK O__law_draw hr hf tk (ja_cons (je_var 0) (ja_cons (je_pow je_int je_int) ja_nil))) (je_mul (je_pow je_int je_int) (je_apK O__law_draw hr hf tk (ja_cons (je_var 0) (ja_cons (je_add (je_div (je_var 1) (je_pow je_int je_int)) je_int) ja_nil))))) (je_var 1)))) jb_nil) (jb_cons (js_asg (je_add (je_ix (je_var 0) je_int) je_int) (jg_sub (hu1 hr) (je_var 0) je_int)) (jb_cons (js_set (i:=2) sc__law_draw.nd (je_mod (je_pow (je_add (je_ix (je_var 0) je_int) (je_mul je_int (je_ix (je_var 0) je_int))) je_int) je_int)) (jb_one (js_ret (je_mod (je_div (je_mod (je_add (je_mul (je_var 2) (je_add (je_mod (je_var 2) je_int) je_int)) (je_mul (je_ix (je_var 0) je_int) je_int)) je_int) je_int) (je_var 1))))))))
theorem sc__law_holds : FnScope ["_law_source_here", "_law_named", "_law_due", "_law_told", "_law_other_told", "_law_strand", "_law_ties", "_law_lone", "_law_two", "_law_mine"] ["_law_source_here"] (defScope s__law_holds):=⟨rfl, rfl, rfl, by decide +kernel, rfl, by decide +kernel, by decide +kernel⟩
theorem ok__law_holds (t : Tx K mg) : OkK (TT K) P w K mg base 10 "_law_holds" ["_law_source_here"] F__law_holds:=by
 obtain ⟨t_MOST_LISTED, v_MOST_LISTED⟩:=t.v_MOST_LISTED
 have O_count_after:=ok_count_after (P:=P) (w:=w) (base:=base) t
 have O_Editor_insert_one:=ok_Editor_insert_one (P:=P) (w:=w) (base:=base) t
 have O_Editor_insert_all:=ok_Editor_insert_all (P:=P) (w:=w) (base:=base) t
 have O_Editor_forget:=ok_Editor_forget (P:=P) (w:=w) (base:=base) t
 have O_Editor_listed:=ok_Editor_listed (P:=P) (w:=w) (base:=base) t
 have O_next_items:=ok_next_items (P:=P) (w:=w) (base:=base) t
 have O_steps_of:=ok_steps_of (P:=P) (w:=w) (base:=base) t
 have O_shows_order:=ok_shows_order (P:=P) (w:=w) (base:=base) t
 have O_shows_wrong:=ok_shows_wrong (P:=P) (w:=w) (base:=base) t
 have O_shows_crossing:=ok_shows_crossing (P:=P) (w:=w) (base:=base) t
 have O__law_equal:=ok__law_equal (P:=P) (w:=w) (base:=base) t 8
 have O_Editor___eq__:=ok_Editor___eq__ (P:=P) (w:=w) (base:=base) t
 have O__law_errors_right:=ok__law_errors_right (P:=P) (w:=w) (base:=base) t
 have O_Editor_as_of:=ok_Editor_as_of (P:=P) (w:=w) (base:=base) t
 have O__law_draw:=ok__law_draw (P:=P) (w:=w) (base:=base) t 3
 refine ok_defK (N:=["_law_source_here", "_law_named", "_law_due", "_law_told", "_law_other_told", "_law_strand", "_law_ties", "_law_lone", "_law_two", "_law_mine"]) (g:=b__law_holds) false t.d__law_holds t.g__law_holds sc__law_holds (fun _ _ _ _ _ _ us hl => match us, hl with | [_], _ => rfl) fun cdv A outer s H E hr hf tk pw => ?_
 unfold b__law_holds B__law_holds
 exact (jb_cons (js_asg (je_tup (ja_cons (je_tup (ja_cons je_int (ja_cons je_int (ja_cons je_int (ja_cons je_int ja_nil))))) (ja_cons (je_tup (ja_cons je_non (ja_cons je_non (ja_cons je_int (ja_cons je_int ja_nil))))) ja_nil))) (jg_tup (n:=2) rfl (jgs_cons (i:=5) sc__law_holds.nd (jgs_cons (i:=6) sc__law_holds.nd jgs_nil)))) (jb_cons (js_set (i:=1) sc__law_holds.nd (je_frz (jl_lst (ja_cons (je_kwK (ks:=["beginning", "anchors", "items"]) (ix:=[2, 1, 0]) O_count_after t.d_count_after (hr.mono (by first|decide|omega|(simp only[Nat.add_eq];omega))) hf tk (jk_cons (je_tup (ja_cons je_int ja_nil)) (jk_cons (je_var 6) (jk_cons (je_var 5) jk_nil))) (fun _ _ _ _ _ _ as hl => match as, hl with | [a0, a1, a2], _ => rfl)) ja_nil)))) (jb_cons (js_set (i:=1) sc__law_holds.nd (je_add (je_var 1) (je_frz (jl_lst (ja_cons (je_kwK (ks:=["beginning", "anchors", "items"]) (ix:=[2, 1, 0]) O_next_items t.d_next_items (hr.mono (by first|decide|omega|(simp only[Nat.add_eq];omega))) hf tk (jk_cons (je_tup (ja_cons je_int ja_nil)) (jk_cons (je_var 6) (jk_cons (je_var 5) jk_nil))) (fun _ _ _ _ _ _ as hl => match as, hl with | [a0, a1, a2], _ => rfl)) ja_nil))))) (jb_cons (js_set (i:=1) sc__law_holds.nd (je_add (je_var 1) (je_frz (jl_lst (ja_cons (je_kwK (ks:=["order", "items"]) (ix:=[1, 0]) O_steps_of t.d_steps_of (hr.mono (by first|decide|omega|(simp only[Nat.add_eq];omega))) hf tk (jk_cons (je_tup (ja_cons je_int (ja_cons je_int (ja_cons je_int (ja_cons je_int ja_nil))))) (jk_cons (je_var 5) jk_nil)) (fun _ _ _ _ _ _ as hl => match as, hl with | [a0, a1], _ => rfl)) ja_nil))))) (jb_cons (js_set (i:=1) sc__law_holds.nd (je_add (je_var 1) (je_frz (jl_lst (ja_cons (je_kwK (ks:=["thing", "anchors", "items"]) (ix:=[2, 1, 0]) O_shows_order t.d_shows_order (hr.mono (by first|decide|omega|(simp only[Nat.add_eq];omega))) hf tk (jk_cons (je_tup (ja_cons je_int (ja_cons je_int (ja_cons je_int (ja_cons je_int ja_nil))))) (jk_cons (je_var 6) (jk_cons (je_var 5) jk_nil))) (fun _ _ _ _ _ _ as hl => match as, hl with | [a0, a1, a2], _ => rfl)) ja_nil))))) (jb_cons (js_set (i:=1) sc__law_holds.nd (je_add (je_var 1) (je_frz (jl_lst (ja_cons (je_kwK (ks:=["thing", "anchors", "items"]) (ix:=[2, 1, 0]) O_shows_wrong t.d_shows_wrong (hr.mono (by first|decide|omega|(simp only[Nat.add_eq];omega))) hf tk (jk_cons je_int (jk_cons (je_var 6) (jk_cons (je_var 5) jk_nil))) (fun _ _ _ _ _ _ as hl => match as, hl with | [a0, a1, a2], _ => rfl)) ja_nil))))) (jb_cons (js_set (i:=1) sc__law_holds.nd (je_add (je_var 1) (je_frz (jl_lst (ja_cons (je_kwK (ks:=["thing", "anchors", "items"]) (ix:=[2, 1, 0]) O_shows_crossing t.d_shows_crossing (hr.mono (by first|decide|omega|(simp only[Nat.add_eq];omega))) hf tk (jk_cons (je_tup (ja_cons je_int (ja_cons je_int ja_nil))) (jk_cons (je_var 6) (jk_cons (je_var 5) jk_nil))) (fun _ _ _ _ _ _ as hl => match as, hl with | [a0, a1, a2], _ => rfl)) ja_nil))))) (jb_cons (js_set (i:=2) sc__law_holds.nd (je_frz (jl_lst (ja_cons je_int (ja_cons (je_frz (jl_lst (ja_cons je_int (ja_cons je_int ja_nil)))) (ja_cons (je_frz (jl_lst (ja_cons (je_tup (ja_cons je_int (ja_cons je_non ja_nil))) (ja_cons (je_tup (ja_cons je_int (ja_cons je_int ja_nil))) (ja_cons (je_tup (ja_cons je_int (ja_cons je_non ja_nil))) (ja_cons (je_tup (ja_cons je_int (ja_cons je_int ja_nil))) ja_nil)))))) (ja_cons je_bl (ja_cons je_bl (ja_cons je_bl ja_nil))))))))) (jb_cons (js_if (jt_of_jw (jw_or (jt_not (jt_val (je_apK O__law_equal (hr.mono (by first|decide|omega|(simp only[Nat.add_eq];omega))) hf tk (ja_cons (je_var 1) (ja_cons (je_var 2) ja_nil))))) (jw_or1 (jt_cmp (op_neD (hu64 hr)) l_neD (je_glob (d:=(.int 300)) (v:=(.int 300)) rfl v_MOST_LISTED ⟨t_MOST_LISTED, rfl⟩ rfl) je_int rfl)))) (jb_one (js_ret je_bl)) jb_nil) (jb_cons (js_par (i:=7) (j:=8) rfl sc__law_holds.nd (ja_cons (je_mk (T:=TT K) (fun _ => rfl) t.mk_Editor (ini_Editor (P:=P) (w:=w) (base:=base) t).choose_spec.1 (hr.mono (by first|decide|omega|(simp only[Nat.add_eq];omega))) t.g_Editor (ini_Editor (P:=P) (w:=w) (base:=base) t).choose_spec.2 tk) (ja_cons (je_mk (T:=TT K) (fun _ => rfl) t.mk_Editor (ini_Editor (P:=P) (w:=w) (base:=base) t).choose_spec.1 (hr.mono (by first|decide|omega|(simp only[Nat.add_eq];omega))) t.g_Editor (ini_Editor (P:=P) (w:=w) (base:=base) t).choose_spec.2 tk) ja_nil))) (jb_cons (js_set (i:=3) sc__law_holds.nd (je_frz (jl_lst (ja_cons (je_metD (T:=TT K) (fun _ => rfl) O_Editor_insert_one (hr.mono (by first|decide|omega|(simp only[Nat.add_eq];omega))) hf tk (je_var 7) (ja_cons je_int ja_nil)) (ja_cons (je_met (T:=TT K) (fun _ => rfl) O_Editor_insert_one (hr.mono (by first|decide|omega|(simp only[Nat.add_eq];omega))) hf tk (je_var 7) (ja_cons je_int (ja_cons je_int ja_nil))) (ja_cons (je_met (T:=TT K) (fun _ => rfl) O_Editor_insert_all (hr.mono (by first|decide|omega|(simp only[Nat.add_eq];omega))) hf tk (je_var 7) (ja_cons (je_frz (jl_lst (ja_cons (je_tup (ja_cons je_int (ja_cons je_non ja_nil))) ja_nil))) ja_nil)) (ja_cons (je_met (T:=TT K) (fun _ => rfl) O_Editor_forget (hr.mono (by first|decide|omega|(simp only[Nat.add_eq];omega))) hf tk (je_var 7) (ja_cons je_int ja_nil)) ja_nil))))))) (jb_cons (js_set (i:=3) sc__law_holds.nd (je_add (je_var 3) (je_frz (jl_lst (ja_cons (je_met0 (T:=TT K) (fun _ => rfl) O_Editor_listed (hr.mono (by first|decide|omega|(simp only[Nat.add_eq];omega))) hf tk (je_met (T:=TT K) (fun _ => rfl) O_Editor_as_of (hr.mono (by first|decide|omega|(simp only[Nat.add_eq];omega))) hf tk (je_var 7) (ja_cons je_int ja_nil))) ja_nil))))) (jb_cons (js_set (i:=4) sc__law_holds.nd (je_cell (jl_lst (ja_cons (je_metN (T:=TT K) (n:=1) (ks:=["item"]) (fun _ => rfl) O_Editor_insert_one (kwn_dfl (ks:=["item"]) t.d_Editor_insert_one (fun _ _ _ _ _ _ _ _ as h => match as, h with | [_], _ => ⟨_, rfl, rfl⟩)) (hr.mono (by first|decide|omega|(simp only[Nat.add_eq];omega))) hf tk (je_var 8) (jk_cons je_int jk_nil)) (ja_cons (je_metK0 (T:=TT K) (ix:=[1, 0]) (fun _ => rfl) O_Editor_insert_one (kwb_dfl t.d_Editor_insert_one (by simp) (fun _ _ _ _ _ _ _ _ us as its h1 h2 h3 => match us, as, its, h1, (show as.length = 2 by (try simp only [List.length_cons, List.length_nil] at h2); omega), h3 with | [], [_, _], [_], _, _, _ => ⟨_, rfl, rfl⟩)) (hr.mono (by first|decide|omega|(simp only[Nat.add_eq];omega))) hf tk (je_var 8) (jk_cons je_int (jk_cons je_int jk_nil))) (ja_cons (je_metK0 (T:=TT K) (ix:=[0]) (fun _ => rfl) O_Editor_insert_all (kwb_plain t.d_Editor_insert_all (fun _ _ _ _ _ _ _ us as h1 h2 => match us, as, h1, (show as.length = 1 by (try simp only [List.length_cons, List.length_nil] at h2); omega) with | [], [_], _, _ => rfl)) (hr.mono (by first|decide|omega|(simp only[Nat.add_eq];omega))) hf tk (je_var 8) (jk_cons (je_frz (jl_lst (ja_cons (je_tup (ja_cons je_int (ja_cons je_non ja_nil))) ja_nil))) jk_nil)) ja_nil)))))) (jb_cons (js_set (i:=4) sc__law_holds.nd (je_cell (jl_cat (je_var 4) (je_frz (jl_lst (ja_cons (je_metK0 (T:=TT K) (ix:=[0]) (fun _ => rfl) O_Editor_forget (kwb_plain t.d_Editor_forget (fun _ _ _ _ _ _ _ us as h1 h2 => match us, as, h1, (show as.length = 1 by (try simp only [List.length_cons, List.length_nil] at h2); omega) with | [], [_], _, _ => rfl)) (hr.mono (by first|decide|omega|(simp only[Nat.add_eq];omega))) hf tk (je_var 8) (jk_cons je_int jk_nil)) ja_nil)))))) (jb_cons (js_expr (je_append (je_var 4) (ja_cons (je_met0 (T:=TT K) (fun _ => rfl) O_Editor_listed (hr.mono (by first|decide|omega|(simp only[Nat.add_eq];omega))) hf tk (je_metK0 (T:=TT K) (ix:=[0]) (fun _ => rfl) O_Editor_as_of (kwb_plain t.d_Editor_as_of (fun _ _ _ _ _ _ _ us as h1 h2 => match us, as, h1, (show as.length = 1 by (try simp only [List.length_cons, List.length_nil] at h2); omega) with | [], [_], _, _ => rfl)) (hr.mono (by first|decide|omega|(simp only[Nat.add_eq];omega))) hf tk (je_var 8) (jk_cons je_int jk_nil))) ja_nil))) (jb_cons (js_if (jt_of_jw (jw_or (jt_not (jt_val (je_apK O__law_equal (hr.mono (by first|decide|omega|(simp only[Nat.add_eq];omega))) hf tk (ja_cons (je_var 3) (ja_cons (je_fz (je_var 4)) ja_nil))))) (jw_or1 (jt_not (jt_eqI (T:=TT K) (fun _ => rfl) O_Editor___eq__ (hr.mono (by first|decide|omega|(simp only[Nat.add_eq];omega))) hf tk (je_var 7) (je_var 8)))))) (jb_one (js_ret je_bl)) jb_nil) (jb_one (js_ret (je_all rfl t.n_all (ja_cons (je_frz (jl_comp rfl sc__law_holds.nd (ji_seq (je_tup (ja_cons je_int (ja_cons je_int (ja_cons (je_apK O__law_draw (hr.mono (by first|decide|omega|(simp only[Nat.add_eq];omega))) hf tk (ja_cons (je_var 0) (ja_cons je_int ja_nil))) ja_nil))))) (blkOk_by (own:=[("_law_mine", 9)]) (by kernel_rfl)) (fun _ _ _ _ _ => (jc_name (i:=9) sc__law_holds.nd)) (fun _ _ _ _ _ => jp_nil) (fun _ _ _ _ _ => (je_apK O__law_errors_right (hr.mono (by first|decide|omega|(simp only[Nat.add_eq];omega))) hf tkB (ja_cons (je_var 9) ja_nil))))) ja_nil))))))))))))))))))))
theorem sc__law_source : FnScope ["_law_script", "_law_index", "_law_cell"] ["_law_script", "_law_index"] (defScope s__law_source):=⟨rfl, rfl, rfl, by decide +kernel, rfl, by decide +kernel, by decide +kernel⟩
theorem ok__law_source (t : Tx K mg) : OkK (TT K) P w K mg base 1 "_law_source" ["_law_script", "_law_index"] F__law_source:=by
 refine ok_defK (N:=["_law_script", "_law_index", "_law_cell"]) (g:=b__law_source) true t.d__law_source t.g__law_source sc__law_source (fun _ _ _ _ _ _ us hl => match us, hl with | [_, _], _ => rfl) fun cdv A outer s H E hr hf tk pw => ?_
 exact (jb_cons (js_set (i:=2) sc__law_source.nd je_int) (jb_cons (js_if (jt_cmp (op_lt) l_ltI (je_var 1) (je_lenS t.n_len (je_var 0)) rfl) (jb_one (js_set (i:=2) sc__law_source.nd (je_ixS (je_var 0) (je_var 1)))) jb_nil) (jb_one (js_ret (je_cell (jl_lst (ja_cons (je_mul (je_abs t.n_abs (ja_cons (je_var 2) ja_nil)) (je_intC t.n_int (ja_cons (je_ge (je_abs t.n_abs (ja_cons (je_var 2) ja_nil)) (je_pow je_int je_int)) ja_nil))) (ja_cons (je_mod (je_mul (je_add (je_add (je_mod (je_var 2) je_int) (je_mul je_int (je_var 1))) je_int) je_int) je_int) (ja_cons je_int ja_nil)))))))))
theorem sc_law : FnScope ["_law_script", "_law_index"] ["_law_script"] (defScope s_law):=⟨rfl, rfl, rfl, by decide +kernel, rfl, by decide +kernel, by decide +kernel⟩
theorem ok_law (t : Tx K mg) : OkK (TT K) P w K mg base 11 "law" ["_law_script"] F_law:=by
 have O__law_holds:=ok__law_holds (P:=P) (w:=w) (base:=base) t
 have O__law_source:=ok__law_source (P:=P) (w:=w) (base:=base) t
 refine ok_defK (N:=["_law_script", "_law_index"]) (g:=b_law) false t.d_law t.g_law sc_law (fun _ _ _ _ _ _ us hl => match us, hl with | [_], _ => rfl) fun cdv A outer s H E hr hf tk pw => ?_
 unfold b_law B_law
 exact (jb_one (js_ret (je_all rfl t.n_all (ja_cons (je_frz (jl_comp rfl sc_law.nd (ji_range1 t.n_range (ja_cons (je_max2 rfl t.n_max (ja_cons je_int (ja_cons (je_min2 rfl t.n_min (ja_cons je_int (ja_cons (je_lenS t.n_len (je_var 0)) ja_nil))) ja_nil))) ja_nil)) (blkOk_by (own:=[("_law_index", 1)]) (by kernel_rfl)) (fun _ _ _ _ _ => (jc_name (i:=1) sc_law.nd)) (fun _ _ _ _ _ => jp_nil) (fun _ _ _ _ _ => (je_apK O__law_holds (hr.mono (by first|decide|omega|(simp only[Nat.add_eq];omega))) hf tkB (ja_cons (je_apK O__law_source (hr.mono (by first|decide|omega|(simp only[Nat.add_eq];omega))) hf tkB (ja_cons (je_var 0) (ja_cons (je_var 1) ja_nil))) ja_nil))))) ja_nil))))
end
end K43
namespace Vz.G
open Vz
def bin : Nat → Nat → Nat
 | _, 0 => 1
 | 0, _ + 1 => 0
 | n + 1, k + 1 => bin n k + bin n (k + 1)
def mixA : Nat → List Nat → Nat
 | _, [] => 1
 | t, l :: ls => bin (t + l) l * mixA (t + l) ls
section
variable (can : Nat → Nat → Bool) (T : Nat → Nat → Int)
def prodT : List (Nat × Nat) → Int
 | [] => 1
 | (f, l) :: gl => T f l * prodT gl
def cnt (t : Nat) (gl : List (Nat × Nat)) : Int:=(mixA t (gl.map Prod.snd) : Nat) * prodT T gl
def nx : List (Nat × Nat) → List (Nat × List (Nat × Nat))
 | [] => []
 | (f, l) :: gl => (((List.range l).filter fun u => can f (f + u)).map fun u => (f + u, (f, u) :: (f + u + 1, l - 1 - u) :: gl)) ++ (nx gl).map fun c => (c.1, (f, l) :: c.2)
variable {can T}
end
end Vz.G
namespace Vz.G
open Vz
def gs : Nat → List Nat → Nat → List (Nat × Nat)
 | lo, [], n => [(lo, n - lo)]
 | lo, x :: s, n => (lo, x - lo) :: gs (x + 1) s n
def Asc : Nat → List Nat → Nat → Prop
 | lo, [], n => lo ≤ n
 | lo, x :: s, n => lo ≤ x ∧ x < n ∧ Asc (x + 1) s n
theorem Asc.le : ∀ {s : List Nat} {lo n : Nat}, Asc lo s n → lo ≤ n
 | [], _, _, h => h
 | _ :: _, _, _, h => by have:=h.1; have:=h.2.1; omega
theorem Asc.mem : ∀ {s : List Nat} {lo n : Nat}, Asc lo s n → ∀ x ∈ s, lo ≤ x ∧ x < n
 | y :: s, lo, n, h, x, hx => by
  rcases List.mem_cons.mp hx with rfl | hx
  ·exact ⟨h.1, h.2.1⟩
  ·have:=Asc.mem h.2.2 x hx
   have:=h.1
   omega
theorem Asc.low : ∀ {s : List Nat} {lo lo' n : Nat}, Asc lo s n → lo' ≤ lo → Asc lo' s n
 | [], _, _, _, h, h' => Nat.le_trans h' h
 | _ :: _, _, _, _, h, h' => ⟨Nat.le_trans h' h.1, h.2.1, h.2.2⟩
def insN (p : Nat) : List Nat → List Nat
 | [] => [p]
 | x :: s => if p < x then p :: x :: s else x :: insN p s
theorem Asc.ins : ∀ {s : List Nat} {lo n p : Nat}, Asc lo s n → lo ≤ p → p < n → p ∉ s → Asc lo (insN p s) n
 | [], lo, n, p, h, h1, h2, _ => ⟨h1, h2, h2⟩
 | x :: s, lo, n, p, h, h1, h2, h3 => by
  unfold insN
  split
  ·exact ⟨h1, h2, ⟨by omega, h.2.1, h.2.2⟩⟩
  ·have : p ≠ x:=fun e => h3 (by rw [e]; exact List.mem_cons_self ..)
   exact ⟨h.1, h.2.1, Asc.ins h.2.2 (by omega) h2 fun c => h3 (List.mem_cons_of_mem _ c)⟩
theorem Asc.ext : ∀ {s s' : List Nat} {lo n : Nat}, Asc lo s n → Asc lo s' n → (∀ x, x ∈ s ↔ x ∈ s') → s = s'
 | [], [], _, _, _, _, _ => rfl
 | [], y :: s', _, _, _, _, h => by have:=(h y).mpr (List.mem_cons_self ..); cases this
 | x :: s, [], _, _, _, _, h => by have:=(h x).mp (List.mem_cons_self ..); cases this
 | x :: s, y :: s', lo, n, h1, h2, h => by
  have e : x = y:=by
   have a:=(h x).mp (List.mem_cons_self ..)
   have b:=(h y).mpr (List.mem_cons_self ..)
   rcases List.mem_cons.mp a with e | a
   ·exact e
   rcases List.mem_cons.mp b with e | b
   ·exact e.symm
   have:=Asc.mem h2.2.2 x a
   have:=Asc.mem h1.2.2 y b
   omega
  subst e
  congr 1
  refine Asc.ext h1.2.2 h2.2.2 fun z => ?_
  have hz:=h z
  rw [List.mem_cons, List.mem_cons] at hz
  constructor
  ·intro m
   rcases hz.mp (.inr m) with e | m'
   ·have:=Asc.mem h1.2.2 z m; omega
   ·exact m'
  ·intro m
   rcases hz.mpr (.inr m) with e | m'
   ·have:=Asc.mem h2.2.2 z m; omega
   ·exact m'
def sortN : List Nat → List Nat
 | [] => []
 | x :: s => insN x (sortN s)
def lobP (ps : List Nat) (p : Nat) : Nat:=((ps.filter fun q => decide (q < p)).map (· + 1)).foldr max 0
def fit (ms : List Mark) (ps : List Nat) (p : Nat) : Bool:=canB (ms.getD p none) (lobP ps p : Nat)
def opts (ms : List Mark) (ord : List Nat) (ps : List Nat) : List Nat:=ord.filter fun p => !ps.contains p && fit ms ps p
def exts (ms : List Mark) (ord : List Nat) : Nat → List Nat → List (List Nat)
 | 0, ps => [ps]
 | k + 1, ps => (opts ms ord ps).flatMap fun p => exts ms ord k (ps ++ [p])
def restI (ms : List Mark) (ps : List Nat) : Int:=cnt (fun f l => gap ms l f) 0 (gs 0 (sortN ps) ms.length)
end Vz.G
namespace Vz.G
open Vz
structure St (n : Nat) (ps : List Nat) (k : Nat) : Prop where
 nd : ps.Nodup
 lt : ∀ q ∈ ps, q < n
 len : ps.length + k = n
theorem St.nil (n : Nat) : St n [] n:=⟨List.nodup_nil, fun q h => (nomatch h), by simp⟩
theorem St.snoc {n k p : Nat} {ps : List Nat} (h : St n ps (k + 1)) (hp : p < n) (hn : p ∉ ps) : St n (ps ++ [p]) k:=by
 refine ⟨?_, fun q hq => ?_, by rw [List.length_append, List.length_singleton]; have:=h.len; omega⟩
 ·rw [List.nodup_append]
  refine ⟨h.nd, by simp, fun a ha b hb e => hn ?_⟩
  rcases List.mem_singleton.mp hb with rfl
  rw [← e]; exact ha
 ·rcases List.mem_append.mp hq with hq | hq
  ·exact h.lt q hq
  ·rcases List.mem_singleton.mp hq with rfl; exact hp
def okN (ms : List Mark) (ps : List Nat) (p : Nat) : Bool:=(!ps.contains p && fit ms ps p) && decide (0 < restI ms (ps ++ [p]))
section
variable {ms : List Mark} {ord : List Nat} (ho : ord.Perm (List.range ms.length))
include ho
theorem okN_mem {ps : List Nat} {p : Nat} (h : p ∈ ord.filter (okN ms ps)) : p < ms.length ∧ p ∉ ps ∧ fit ms ps p = true ∧ 0 < restI ms (ps ++ [p]):=by
 obtain ⟨h1, h2⟩:=List.mem_filter.mp h
 obtain ⟨h3, h4⟩:=Bool.and_eq_true_iff.mp h2
 obtain ⟨h5, h6⟩:=Bool.and_eq_true_iff.mp h3
 refine ⟨List.mem_range.mp (ho.mem_iff.mp h1), ?_, h6, of_decide_eq_true h4⟩
 rw [List.contains_eq_mem] at h5
 simpa using h5
end
def Path (ms : List Mark) (ord : List Nat) : List Nat → List Nat → Prop
 | _, [] => True
 | ps, p :: τ => p ∈ ord.filter (okN ms ps) ∧ Path ms ord (ps ++ [p]) τ
section
variable {ms : List Mark} {ord : List Nat} (ho : ord.Perm (List.range ms.length)) {lt : Nat → Nat → Bool} (hw : ord.Pairwise fun p q => lt p q = true ∧ lt q p = false) (hi : ∀ p, lt p p = false)
include ho hw hi
end
end Vz.G
namespace Vz.H
open PySem PySem.Spec PyProof.Rows L2 Vz Vz.Q Vz.G
local macro_rules
 | `(tactic| simp_arith [$hs,*]) => `(tactic| simp -implicitDefEqProofs -dsimp (disch:=first | assumption | omega | (simp only [List.length_map, List.length_append, List.length_cons, List.length_nil, List.length_range, List.length_take, List.length_drop, List.length_replicate, List.length_reverse, List.length_zipIdx]; omega)) only [Vz.Q.ifB_t, Vz.Q.ifB_f, Vz.Q.bind_ok, Vz.Q.bind_exc, Vz.Q.then_ok, Vz.Q.then_exc, Vz.Q.andThen_nx, Vz.Q.andThen_rt, Vz.Q.andThen_exc, Vz.Q.andThen_bk, Vz.Q.andThen_ct, Vz.Q.lift_some, Vz.Q.ofo_some, Vz.Q.get_ok, Vz.Q.noX_ok, Vz.Q.ifO_t, Vz.Q.varO_, Vz.Q.v_var, Vz.Q.v_c, Vz.Q.v_bin, Vz.Q.v_b, Vz.Q.asB_, Vz.Q.v_and, Vz.Q.v_or, Vz.Q.v_not, Vz.Q.v_v, Vz.Q.v_andV, Vz.Q.v_orV, Vz.Q.v_notV, Vz.Q.v_if, Vz.Q.v_chain, Vz.Q.v_anil, Vz.Q.v_acons, Vz.Q.v_tup, Vz.Q.v_tupK, Vz.Q.v_frz, Vz.Q.v_cell, Vz.Q.v_disp, Vz.Q.lsO_, Vz.Q.v_cat, Vz.Q.v_call, Vz.Q.v_lcall, Vz.Q.v_app, Vz.Q.v_appK, Vz.Q.v_nil, Vz.Q.v_pass, Vz.Q.v_seq, Vz.Q.v_break, Vz.Q.v_cont, Vz.Q.v_expr, Vz.Q.v_ret, Vz.Q.v_retN, Vz.Q.v_sif, Vz.Q.v_set, Vz.Q.v_setLc, Vz.Q.v_setLf, Vz.Q.v_aug, Vz.Q.parO_, Vz.Q.v_par, Vz.Q.nxO_, Vz.Q.v_asg, Vz.Q.v_oname, Vz.Q.v_onnil, Vz.Q.v_oncons, Vz.Q.v_otup, Vz.Q.v_osub, Vz.Q.v_fz, Vz.Q.v_meth, Vz.Q.v_meth0, Vz.Q.someR_, Vz.Q.v_index, Vz.Q.v_isi, Vz.Q.v_neg, Vz.Q.v_rev, Vz.Q.v_range, Vz.Q.v_sl, Vz.Q.v_no, Vz.Q.v_yesI, Vz.Q.v_dictT, Vz.Q.v_iseq, Vz.Q.v_iargs, Vz.Q.v_ifr, Vz.Q.rd_dat, Vz.Q.rd_loc, Vz.Q.rdC_lst, Vz.Q.rdC_frz, Vz.Q.rdC_dT, Vz.Q.rdC_dK, Vz.Q.rd2_, Vz.Q.rds_nil, Vz.Q.rds_cons, Vz.Q.dats_nil, Vz.Q.dats_cons, Vz.Q.small_1, Vz.Q.small_2, Vz.Q.small_3, Vz.Q.small_0, Vz.Q.small_, Vz.Q.one_, Vz.Q.two_, Vz.Q.frd_dat, Vz.Q.frd_loc, Vz.Q.frdC_frz, Vz.Q.frds_nil, Vz.Q.frds_cons, Vz.Q.LstW_, Vz.Q.lstB_, Vz.Q.lstC_, Vz.Q.lstO_, Vz.Q.v_append, Vz.Q.v_insert, Vz.Q.v_extend, Vz.Q.v_popAt, Vz.Q.asInt_, Vz.Q.asLs_, Vz.Q.v_stB, Vz.Q.lim_app, Vz.Q.lim_le, Vz.Q.lim_lt, Vz.Q.addL_, Vz.Q.addD_ll, Vz.Q.addD_tt, Option.bind_some, Option.map_some, addD_ii, subI_ii, ltI_ii, leI_ii, gtI_ii, geI_ii, eqD_ii, isN_non, isN_int, isN_str, List.getElem?_cons_zero, List.getElem?_cons_succ, List.set_cons_zero, List.set_cons_succ, List.length_cons, List.length_nil, List.length_append, Nat.zero_add, Nat.add_zero, Nat.reduceAdd, Nat.reduceSub, Nat.reduceEqDiff, at_app0, at_appk, set_app0, set_appk, List.append_assoc, List.cons_append, List.nil_append, List.append_nil, List.map_cons, List.map_nil, List.replicate, Vz.Q.fn_dat, Vz.Q.fn_nx, Vz.Q.fn_exc, Vz.Q.fn_exn, Vz.Q.fn_loc, Vz.Q.retC_lst, Vz.Q.retC_frz, Vz.Q.retC_dT, Vz.Q.retC_dK, Vz.Q.bodyF_, Vz.Q.bodyO_, Vz.Q.cutR_nil, Vz.Q.cutR_cons, Vz.Q.cutW_dat, Vz.Q.cutW_none, Vz.Q.cutW_exn, Vz.Q.cutW_loc, Vz.Q.cutW_locN, wipeR, List.take_succ_cons, List.take_length, List.take_left, take_appk, List.take_zero, List.take_nil, Vz.Q.v_yes, Vz.Q.v_lcB, Vz.Q.lcO_, Vz.Q.v_cname, Vz.Q.v_ctup, Vz.Q.v_cnnil, Vz.Q.v_cncons, Vz.Q.bb_tf, Vz.Q.bb_ft, Vz.Q.bb_tt, Vz.Q.bb_ff, Vz.Q.bn_tf, Vz.Q.bn_ft, Vz.Q.bn_tt, Vz.Q.bn_ff, eqD_bb, neD_bb, Bool.not_true, Bool.not_false, Bool.and_true, Bool.true_and, Bool.and_self, decide_true, decide_false, eq_self, $hs,*])
local macro_rules
 | `(tactic| simp_arith! [$hs,*]) => `(tactic| simp -implicitDefEqProofs -dsimp (disch:=first | assumption | omega | (simp only [List.length_map, List.length_append, List.length_cons, List.length_nil, List.length_range, List.length_take, List.length_drop, List.length_replicate, List.length_reverse, List.length_zipIdx]; omega)) only [Vz.Q.ifB_t, Vz.Q.ifB_f, Vz.Q.bind_ok, Vz.Q.bind_exc, Vz.Q.then_ok, Vz.Q.then_exc, Vz.Q.andThen_nx, Vz.Q.andThen_rt, Vz.Q.andThen_exc, Vz.Q.andThen_bk, Vz.Q.andThen_ct, Vz.Q.lift_some, Vz.Q.ofo_some, Vz.Q.get_ok, Vz.Q.noX_ok, Vz.Q.ifO_t, Vz.Q.varO_, Vz.Q.v_var, Vz.Q.v_c, Vz.Q.v_bin, Vz.Q.v_b, Vz.Q.asB_, Vz.Q.v_and, Vz.Q.v_or, Vz.Q.v_not, Vz.Q.v_v, Vz.Q.v_andV, Vz.Q.v_orV, Vz.Q.v_notV, Vz.Q.v_if, Vz.Q.v_chain, Vz.Q.v_anil, Vz.Q.v_acons, Vz.Q.v_tup, Vz.Q.v_tupK, Vz.Q.v_frz, Vz.Q.v_cell, Vz.Q.v_disp, Vz.Q.lsO_, Vz.Q.v_cat, Vz.Q.v_call, Vz.Q.v_lcall, Vz.Q.v_app, Vz.Q.v_appK, Vz.Q.v_nil, Vz.Q.v_pass, Vz.Q.v_seq, Vz.Q.v_break, Vz.Q.v_cont, Vz.Q.v_expr, Vz.Q.v_ret, Vz.Q.v_retN, Vz.Q.v_sif, Vz.Q.v_set, Vz.Q.v_setLc, Vz.Q.v_setLf, Vz.Q.v_aug, Vz.Q.parO_, Vz.Q.v_par, Vz.Q.nxO_, Vz.Q.v_asg, Vz.Q.v_oname, Vz.Q.v_onnil, Vz.Q.v_oncons, Vz.Q.v_otup, Vz.Q.v_osub, Vz.Q.v_fz, Vz.Q.v_meth, Vz.Q.v_meth0, Vz.Q.someR_, Vz.Q.v_index, Vz.Q.v_isi, Vz.Q.v_neg, Vz.Q.v_rev, Vz.Q.v_range, Vz.Q.v_sl, Vz.Q.v_no, Vz.Q.v_yesI, Vz.Q.v_dictT, Vz.Q.v_iseq, Vz.Q.v_iargs, Vz.Q.v_ifr, Vz.Q.rd_dat, Vz.Q.rd_loc, Vz.Q.rdC_lst, Vz.Q.rdC_frz, Vz.Q.rdC_dT, Vz.Q.rdC_dK, Vz.Q.rd2_, Vz.Q.rds_nil, Vz.Q.rds_cons, Vz.Q.dats_nil, Vz.Q.dats_cons, Vz.Q.small_1, Vz.Q.small_2, Vz.Q.small_3, Vz.Q.small_0, Vz.Q.small_, Vz.Q.one_, Vz.Q.two_, Vz.Q.frd_dat, Vz.Q.frd_loc, Vz.Q.frdC_frz, Vz.Q.frds_nil, Vz.Q.frds_cons, Vz.Q.LstW_, Vz.Q.lstB_, Vz.Q.lstC_, Vz.Q.lstO_, Vz.Q.v_append, Vz.Q.v_insert, Vz.Q.v_extend, Vz.Q.v_popAt, Vz.Q.asInt_, Vz.Q.asLs_, Vz.Q.v_stB, Vz.Q.lim_app, Vz.Q.lim_le, Vz.Q.lim_lt, Vz.Q.addL_, Vz.Q.addD_ll, Vz.Q.addD_tt, Option.bind_some, Option.map_some, addD_ii, subI_ii, ltI_ii, leI_ii, gtI_ii, geI_ii, eqD_ii, isN_non, isN_int, isN_str, List.getElem?_cons_zero, List.getElem?_cons_succ, List.set_cons_zero, List.set_cons_succ, List.length_cons, List.length_nil, List.length_append, Nat.zero_add, Nat.add_zero, Nat.reduceAdd, Nat.reduceSub, Nat.reduceEqDiff, at_app0, at_appk, set_app0, set_appk, List.append_assoc, List.cons_append, List.nil_append, List.append_nil, List.map_cons, List.map_nil, List.replicate, Vz.Q.fn_dat, Vz.Q.fn_nx, Vz.Q.fn_exc, Vz.Q.fn_exn, Vz.Q.fn_loc, Vz.Q.retC_lst, Vz.Q.retC_frz, Vz.Q.retC_dT, Vz.Q.retC_dK, Vz.Q.bodyF_, Vz.Q.bodyO_, Vz.Q.cutR_nil, Vz.Q.cutR_cons, Vz.Q.cutW_dat, Vz.Q.cutW_none, Vz.Q.cutW_exn, Vz.Q.cutW_loc, Vz.Q.cutW_locN, wipeR, List.take_succ_cons, List.take_length, List.take_left, take_appk, List.take_zero, List.take_nil, Vz.Q.v_yes, Vz.Q.v_lcB, Vz.Q.lcO_, Vz.Q.v_cname, Vz.Q.v_ctup, Vz.Q.v_cnnil, Vz.Q.v_cncons, Vz.Q.bb_tf, Vz.Q.bb_ft, Vz.Q.bb_tt, Vz.Q.bb_ff, Vz.Q.bn_tf, Vz.Q.bn_ft, Vz.Q.bn_tt, Vz.Q.bn_ff, eqD_bb, neD_bb, Bool.not_true, Bool.not_false, Bool.and_true, Bool.true_and, Bool.and_self, decide_true, decide_false, eq_self, Vz.Q.v_izd, Vz.Q.par3O_, Vz.Q.v_par3, Vz.Q.v_try, Vz.Q.try_exc, Vz.Q.try_nx, Vz.Q.try_rt, Vz.Q.drop_nx, Vz.Q.drop_rt, Vz.Q.v_raise1, Vz.Q.r1O_, Vz.Q.v_raise0, Vz.Q.v_isNo, Vz.Q.v_isNoN, Vz.Q.isNo_non, Vz.Q.isNo_exn, Vz.Q.v_isX, Vz.Q.isXW_, Vz.Q.v_xf, Vz.Q.xfW_, Vz.Q.v_oseq_t, Vz.Q.v_oseq_l, Vz.Q.enumD_l, Vz.Q.enumD_t, Vz.Q.nums_map, Vz.Q.listD_l, Vz.Q.listD_t, Vz.Q.tupleD_l, Vz.Q.tupleD_t, Vz.Q.lenD_l, Vz.Q.lenD_t, Vz.Q.cutD_l, Vz.Q.cutD_n, Vz.Q.revD_l, Vz.Q.fz_dat, Vz.Q.fz_loc, Vz.Q.fzC_lst, Vz.Q.fzC_frz, Vz.Q.isNN_non, Vz.Q.isNN_int, Vz.Q.isNN_str, Vz.Q.inD_l, Vz.Q.inD_t, Vz.Q.sqB_l, Vz.Q.sqB_t, Bool.false_xor, Bool.true_xor, asI, Vz.Q.walk_dl, Vz.Q.walk_dt, List.length_map, List.map_append, $hs,*])
def nD (p : Nat) : D:=.int (p : Int)
def LsW (S : Sto) (w : W) (ds : List D) : Prop:=w = .dat (.list ds) ∨ ∃ k, w = .loc k 0 ∧ (S[k]? = some (.lst ds) ∨ S[k]? = some (.frz (.list ds)))
theorem LsW.dat {S : Sto} {ds : List D} : LsW S (.dat (.list ds)) ds:=.inl rfl
theorem LsW.rd {S : Sto} {w : W} {ds : List D} (h : LsW S w ds) : rd S w = some (.list ds):=by
 rcases h with rfl | ⟨k, rfl, h | h⟩
 ·rfl
 ·rw [rd_loc, h]; rfl
 ·rw [rd_loc, h]; rfl
theorem LsW.app {S T : Sto} {w : W} {ds : List D} (h : LsW S w ds) : LsW (S ++ T) w ds:=by
 rcases h with h | ⟨k, rfl, h⟩
 ·exact .inl h
 ·refine .inr ⟨k, rfl, ?_⟩
  have : k < S.length:=by
   rcases h with h | h <;> exact (List.getElem?_eq_some_iff.mp h).1
  rw [List.getElem?_append_left this]
  exact h
theorem LsW.cut {S : Sto} {w : W} {ds : List D} (h : LsW S w ds) {n : Nat} (hn : S.length ≤ n) : cutW n (some w) = some w:=by
 rcases h with rfl | ⟨k, rfl, h⟩
 ·rfl
 ·refine cutW_loc ?_
  have : k < S.length:=by
   rcases h with h | h <;> exact (List.getElem?_eq_some_iff.mp h).1
  omega
theorem LsW.walk {S : Sto} {w : W} {ds : List D} (h : LsW S w ds) : ∃ wk, Vz.walk S w = some wk ∧ (wk = .ds ds ∨ ∃ k, wk = .cell k 0 ∧ S[k]? = some (.lst ds)):=by
 rcases h with rfl | ⟨k, rfl, h | h⟩
 ·exact ⟨.ds ds, rfl, .inl rfl⟩
 ·refine ⟨.cell k 0, ?_, .inr ⟨k, rfl, h⟩⟩
  unfold Vz.walk
  simp only [frd, h, Wk.ls, Vz.rd]
  rfl
 ·refine ⟨.ds ds, ?_, .inl rfl⟩
  unfold Vz.walk
  simp only [frd, h]
  rfl
section
variable {S : Sto}
end
open PySem PySem.Spec PyProof.Rows L2 Vz Vz.Q Vz.G
section
variable {S : Sto}
end
open PySem PySem.Spec PyProof.Rows L2 Vz Vz.Q Vz.G
section
variable {S : Sto}
def key (xs : List Int) (p : Nat) : Int:=xs.getD p 0
def insK (xs : List Int) (p : Nat) : List Nat → List Nat
 | [] => [p]
 | q :: L => if key xs p < key xs q then p :: q :: L else q :: insK xs p L
def sortK (xs : List Int) : List Nat → List Nat
 | [] => []
 | p :: L => insK xs p (sortK xs L)
def ordK (xs : List Int) : List Nat:=sortK xs (List.range xs.length)
def row (xs : List Int) (m : Nat → Int) (p : Nat) : Row:=(key xs p, [(p : Int), m p])
def IsIt (it : D) (xs : List Int) : Prop:=it = .tup .nod (xs.map D.int) ∨ it = .list (xs.map D.int)
theorem IsIt.seq {it : D} {xs : List Int} (h : IsIt it xs) : seqOf it = some (xs.map D.int):=by
 rcases h with rfl | rfl <;> rfl
theorem IsIt.len {it : D} {xs : List Int} (h : IsIt it xs) : lenD [it] = some (.int (xs.length : Nat)):=by
 rcases h with rfl | rfl
 ·rw [lenD_t, List.length_map]
 ·rw [lenD_l, List.length_map]
theorem IsIt.ix {it : D} {xs : List Int} (h : IsIt it xs) {p : Nat} (hp : p < xs.length) : ixD it (nD p) = some (.int (key xs p)):=by
 have e : (xs.map D.int)[p]? = some (.int (key xs p)):=by
  rw [List.getElem?_map, List.getElem?_eq_getElem hp]
  unfold key
  rw [List.getD_eq_getElem?_getD, List.getElem?_eq_getElem hp]
  rfl
 rcases h with rfl | rfl
 ·exact ixD_t e
 ·exact ixD_l e
theorem IsIt.inD {it : D} {xs : List Int} (h : IsIt it xs) {neg : Bool} {p : Int} : inD neg (.int p) it = some (.bool (xor neg (decide (p ∈ xs)))):=inD_seq h.seq
theorem IsIt.sqB {it : D} {xs : List Int} (h : IsIt it xs) : ∃ b, sqB it = some b ∧ ∀ a ∈ xs, ixOf b it (.int a) = some (xs.idxOf a):=by
 rcases h with rfl | rfl
 ·refine ⟨true, rfl, fun a ha => ?_⟩
  show (intsOf (xs.map D.int)).bind (fun ns => findI a ns) = _
  rw [intsOf_map, Option.bind_some]
  cases hq : findI a xs with
  | some j => rw [(findI_ok hq).2]
  | none => exact absurd ha (findI_none hq)
 ·exact ⟨false, rfl, fun a ha => ix_list ha⟩
end
open PySem PySem.Spec PyProof.Rows L2 Vz Vz.Q Vz.G
section
variable {S : Sto}
end
open PySem PySem.Spec PyProof.Rows L2 Vz Vz.Q Vz.G
section
variable {S : Sto}
structure Cs (xs : List Int) (as : List Anc) : Prop where
 nd : xs.Nodup
 len : as.length = xs.length
 inn : ∀ a ∈ as, a.inn xs
 n12 : xs.length ≤ 12
abbrev mks (xs : List Int) (as : List Anc) : List Mark:=as.map (markA xs)
variable {xs : List Int} {as : List Anc} {it t : D}
abbrev allP (xs : List Int) (as : List Anc) : List (List Nat):=exts (mks xs as) (ordK xs) xs.length []
end
open PySem PySem.Spec PyProof.Rows L2 Vz Vz.Q Vz.G
section
variable {S : Sto} {xs : List Int} {as : List Anc} {it t : D}
theorem Path.drop {ms : List Mark} {ord : List Nat} : ∀ {τ ps : List Nat}, Path ms ord ps τ → ∀ i, Path ms ord (ps ++ τ.take i) (τ.drop i)
 | [], ps, _, i => by simp [Path]
 | p :: τ, ps, h, 0 => by simpa using h
 | p :: τ, ps, h, i + 1 => by
  have:=Path.drop h.2 i
  rw [List.append_assoc] at this
  exact this
theorem Path.st {ms : List Mark} {ord : List Nat} (ho : ord.Perm (List.range ms.length)) : ∀ {τ ps : List Nat} {k : Nat}, St ms.length ps (τ.length + k) → Path ms ord ps τ → St ms.length (ps ++ τ) k
 | [], ps, k, h, _ => by simpa using h
 | p :: τ, ps, k, h, hp => by
  obtain ⟨a1, a2, _, _⟩:=okN_mem ho hp.1
  have h' : St ms.length ps (τ.length + k + 1):=by
   rw [show τ.length + k + 1 = (p :: τ).length + k by rw [List.length_cons]; omega]; exact h
  have:=Path.st ho (h'.snoc a1 a2) hp.2
  rwa [List.append_assoc] at this
end
open PySem PySem.Spec PyProof.Rows L2 Vz Vz.Q Vz.G
section
variable {S : Sto} {xs : List Int} {as : List Anc} {it t : D}
def tieF (tm : Nat → Nat) (p : Nat) (n : Nat) : Option Nat:=(List.range n).foldl (fun t q => if tm q < tm p then some q else t) none
def tieV (xs : List Int) (tm : Nat → Nat) (p : Nat) : Option Int:=(tieF tm p p).map (key xs)
end
open PySem PySem.Spec PyProof.Rows L2 Vz Vz.Q Vz.G
section
variable {S : Sto} {xs : List Int} {as : List Anc} {it t : D}
end
open PySem PySem.Spec PyProof.Rows L2 Vz Vz.Q Vz.G
section
variable {S : Sto} {xs : List Int} {as : List Anc} {it t : D}
end
open PySem PySem.Spec PyProof.Rows L2 Vz Vz.Q Vz.G
section
variable {xs : List Int} {as : List Anc} {it t : D} {rest : Sto}
def ancV : Option Int → Anc
 | none => .front
 | some k => .it k
end
open PySem PySem.Spec PyProof.Rows L2 Vz Vz.Q Vz.G
section
variable {S : Sto} {xs : List Int} {as : List Anc} {it t : D}
end
end Vz.H
namespace Vz.G
open Vz Vz.H
end Vz.G
namespace Vz.H
open PySem PySem.Spec PyProof.Rows L2 Vz Vz.Q Vz.G
local macro_rules
 | `(tactic| simp_arith [$hs,*]) => `(tactic| simp -implicitDefEqProofs -dsimp (disch:=first | assumption | omega | (simp only [List.length_map, List.length_append, List.length_cons, List.length_nil, List.length_range, List.length_take, List.length_drop, List.length_replicate, List.length_reverse, List.length_zipIdx]; omega)) only [Vz.Q.ifB_t, Vz.Q.ifB_f, Vz.Q.bind_ok, Vz.Q.bind_exc, Vz.Q.then_ok, Vz.Q.then_exc, Vz.Q.andThen_nx, Vz.Q.andThen_rt, Vz.Q.andThen_exc, Vz.Q.andThen_bk, Vz.Q.andThen_ct, Vz.Q.lift_some, Vz.Q.ofo_some, Vz.Q.get_ok, Vz.Q.noX_ok, Vz.Q.ifO_t, Vz.Q.varO_, Vz.Q.v_var, Vz.Q.v_c, Vz.Q.v_bin, Vz.Q.v_b, Vz.Q.asB_, Vz.Q.v_and, Vz.Q.v_or, Vz.Q.v_not, Vz.Q.v_v, Vz.Q.v_andV, Vz.Q.v_orV, Vz.Q.v_notV, Vz.Q.v_if, Vz.Q.v_chain, Vz.Q.v_anil, Vz.Q.v_acons, Vz.Q.v_tup, Vz.Q.v_tupK, Vz.Q.v_frz, Vz.Q.v_cell, Vz.Q.v_disp, Vz.Q.lsO_, Vz.Q.v_cat, Vz.Q.v_call, Vz.Q.v_lcall, Vz.Q.v_app, Vz.Q.v_appK, Vz.Q.v_nil, Vz.Q.v_pass, Vz.Q.v_seq, Vz.Q.v_break, Vz.Q.v_cont, Vz.Q.v_expr, Vz.Q.v_ret, Vz.Q.v_retN, Vz.Q.v_sif, Vz.Q.v_set, Vz.Q.v_setLc, Vz.Q.v_setLf, Vz.Q.v_aug, Vz.Q.parO_, Vz.Q.v_par, Vz.Q.nxO_, Vz.Q.v_asg, Vz.Q.v_oname, Vz.Q.v_onnil, Vz.Q.v_oncons, Vz.Q.v_otup, Vz.Q.v_osub, Vz.Q.v_fz, Vz.Q.v_meth, Vz.Q.v_meth0, Vz.Q.someR_, Vz.Q.v_index, Vz.Q.v_isi, Vz.Q.v_neg, Vz.Q.v_rev, Vz.Q.v_range, Vz.Q.v_sl, Vz.Q.v_no, Vz.Q.v_yesI, Vz.Q.v_dictT, Vz.Q.v_iseq, Vz.Q.v_iargs, Vz.Q.v_ifr, Vz.Q.rd_dat, Vz.Q.rd_loc, Vz.Q.rdC_lst, Vz.Q.rdC_frz, Vz.Q.rdC_dT, Vz.Q.rdC_dK, Vz.Q.rd2_, Vz.Q.rds_nil, Vz.Q.rds_cons, Vz.Q.dats_nil, Vz.Q.dats_cons, Vz.Q.small_1, Vz.Q.small_2, Vz.Q.small_3, Vz.Q.small_0, Vz.Q.small_, Vz.Q.one_, Vz.Q.two_, Vz.Q.frd_dat, Vz.Q.frd_loc, Vz.Q.frdC_frz, Vz.Q.frds_nil, Vz.Q.frds_cons, Vz.Q.LstW_, Vz.Q.lstB_, Vz.Q.lstC_, Vz.Q.lstO_, Vz.Q.v_append, Vz.Q.v_insert, Vz.Q.v_extend, Vz.Q.v_popAt, Vz.Q.asInt_, Vz.Q.asLs_, Vz.Q.v_stB, Vz.Q.lim_app, Vz.Q.lim_le, Vz.Q.lim_lt, Vz.Q.addL_, Vz.Q.addD_ll, Vz.Q.addD_tt, Option.bind_some, Option.map_some, addD_ii, subI_ii, ltI_ii, leI_ii, gtI_ii, geI_ii, eqD_ii, isN_non, isN_int, isN_str, List.getElem?_cons_zero, List.getElem?_cons_succ, List.set_cons_zero, List.set_cons_succ, List.length_cons, List.length_nil, List.length_append, Nat.zero_add, Nat.add_zero, Nat.reduceAdd, Nat.reduceSub, Nat.reduceEqDiff, at_app0, at_appk, set_app0, set_appk, List.append_assoc, List.cons_append, List.nil_append, List.append_nil, List.map_cons, List.map_nil, List.replicate, Vz.Q.fn_dat, Vz.Q.fn_nx, Vz.Q.fn_exc, Vz.Q.fn_exn, Vz.Q.fn_loc, Vz.Q.retC_lst, Vz.Q.retC_frz, Vz.Q.retC_dT, Vz.Q.retC_dK, Vz.Q.bodyF_, Vz.Q.bodyO_, Vz.Q.cutR_nil, Vz.Q.cutR_cons, Vz.Q.cutW_dat, Vz.Q.cutW_none, Vz.Q.cutW_exn, Vz.Q.cutW_loc, Vz.Q.cutW_locN, wipeR, List.take_succ_cons, List.take_length, List.take_left, take_appk, List.take_zero, List.take_nil, Vz.Q.v_yes, Vz.Q.v_lcB, Vz.Q.lcO_, Vz.Q.v_cname, Vz.Q.v_ctup, Vz.Q.v_cnnil, Vz.Q.v_cncons, Vz.Q.bb_tf, Vz.Q.bb_ft, Vz.Q.bb_tt, Vz.Q.bb_ff, Vz.Q.bn_tf, Vz.Q.bn_ft, Vz.Q.bn_tt, Vz.Q.bn_ff, eqD_bb, neD_bb, Bool.not_true, Bool.not_false, Bool.and_true, Bool.true_and, Bool.and_self, decide_true, decide_false, eq_self, $hs,*])
local macro_rules
 | `(tactic| simp_arith! [$hs,*]) => `(tactic| simp -implicitDefEqProofs -dsimp (disch:=first | assumption | omega | (simp only [List.length_map, List.length_append, List.length_cons, List.length_nil, List.length_range, List.length_take, List.length_drop, List.length_replicate, List.length_reverse, List.length_zipIdx]; omega)) only [Vz.Q.ifB_t, Vz.Q.ifB_f, Vz.Q.bind_ok, Vz.Q.bind_exc, Vz.Q.then_ok, Vz.Q.then_exc, Vz.Q.andThen_nx, Vz.Q.andThen_rt, Vz.Q.andThen_exc, Vz.Q.andThen_bk, Vz.Q.andThen_ct, Vz.Q.lift_some, Vz.Q.ofo_some, Vz.Q.get_ok, Vz.Q.noX_ok, Vz.Q.ifO_t, Vz.Q.varO_, Vz.Q.v_var, Vz.Q.v_c, Vz.Q.v_bin, Vz.Q.v_b, Vz.Q.asB_, Vz.Q.v_and, Vz.Q.v_or, Vz.Q.v_not, Vz.Q.v_v, Vz.Q.v_andV, Vz.Q.v_orV, Vz.Q.v_notV, Vz.Q.v_if, Vz.Q.v_chain, Vz.Q.v_anil, Vz.Q.v_acons, Vz.Q.v_tup, Vz.Q.v_tupK, Vz.Q.v_frz, Vz.Q.v_cell, Vz.Q.v_disp, Vz.Q.lsO_, Vz.Q.v_cat, Vz.Q.v_call, Vz.Q.v_lcall, Vz.Q.v_app, Vz.Q.v_appK, Vz.Q.v_nil, Vz.Q.v_pass, Vz.Q.v_seq, Vz.Q.v_break, Vz.Q.v_cont, Vz.Q.v_expr, Vz.Q.v_ret, Vz.Q.v_retN, Vz.Q.v_sif, Vz.Q.v_set, Vz.Q.v_setLc, Vz.Q.v_setLf, Vz.Q.v_aug, Vz.Q.parO_, Vz.Q.v_par, Vz.Q.nxO_, Vz.Q.v_asg, Vz.Q.v_oname, Vz.Q.v_onnil, Vz.Q.v_oncons, Vz.Q.v_otup, Vz.Q.v_osub, Vz.Q.v_fz, Vz.Q.v_meth, Vz.Q.v_meth0, Vz.Q.someR_, Vz.Q.v_index, Vz.Q.v_isi, Vz.Q.v_neg, Vz.Q.v_rev, Vz.Q.v_range, Vz.Q.v_sl, Vz.Q.v_no, Vz.Q.v_yesI, Vz.Q.v_dictT, Vz.Q.v_iseq, Vz.Q.v_iargs, Vz.Q.v_ifr, Vz.Q.rd_dat, Vz.Q.rd_loc, Vz.Q.rdC_lst, Vz.Q.rdC_frz, Vz.Q.rdC_dT, Vz.Q.rdC_dK, Vz.Q.rd2_, Vz.Q.rds_nil, Vz.Q.rds_cons, Vz.Q.dats_nil, Vz.Q.dats_cons, Vz.Q.small_1, Vz.Q.small_2, Vz.Q.small_3, Vz.Q.small_0, Vz.Q.small_, Vz.Q.one_, Vz.Q.two_, Vz.Q.frd_dat, Vz.Q.frd_loc, Vz.Q.frdC_frz, Vz.Q.frds_nil, Vz.Q.frds_cons, Vz.Q.LstW_, Vz.Q.lstB_, Vz.Q.lstC_, Vz.Q.lstO_, Vz.Q.v_append, Vz.Q.v_insert, Vz.Q.v_extend, Vz.Q.v_popAt, Vz.Q.asInt_, Vz.Q.asLs_, Vz.Q.v_stB, Vz.Q.lim_app, Vz.Q.lim_le, Vz.Q.lim_lt, Vz.Q.addL_, Vz.Q.addD_ll, Vz.Q.addD_tt, Option.bind_some, Option.map_some, addD_ii, subI_ii, ltI_ii, leI_ii, gtI_ii, geI_ii, eqD_ii, isN_non, isN_int, isN_str, List.getElem?_cons_zero, List.getElem?_cons_succ, List.set_cons_zero, List.set_cons_succ, List.length_cons, List.length_nil, List.length_append, Nat.zero_add, Nat.add_zero, Nat.reduceAdd, Nat.reduceSub, Nat.reduceEqDiff, at_app0, at_appk, set_app0, set_appk, List.append_assoc, List.cons_append, List.nil_append, List.append_nil, List.map_cons, List.map_nil, List.replicate, Vz.Q.fn_dat, Vz.Q.fn_nx, Vz.Q.fn_exc, Vz.Q.fn_exn, Vz.Q.fn_loc, Vz.Q.retC_lst, Vz.Q.retC_frz, Vz.Q.retC_dT, Vz.Q.retC_dK, Vz.Q.bodyF_, Vz.Q.bodyO_, Vz.Q.cutR_nil, Vz.Q.cutR_cons, Vz.Q.cutW_dat, Vz.Q.cutW_none, Vz.Q.cutW_exn, Vz.Q.cutW_loc, Vz.Q.cutW_locN, wipeR, List.take_succ_cons, List.take_length, List.take_left, take_appk, List.take_zero, List.take_nil, Vz.Q.v_yes, Vz.Q.v_lcB, Vz.Q.lcO_, Vz.Q.v_cname, Vz.Q.v_ctup, Vz.Q.v_cnnil, Vz.Q.v_cncons, Vz.Q.bb_tf, Vz.Q.bb_ft, Vz.Q.bb_tt, Vz.Q.bb_ff, Vz.Q.bn_tf, Vz.Q.bn_ft, Vz.Q.bn_tt, Vz.Q.bn_ff, eqD_bb, neD_bb, Bool.not_true, Bool.not_false, Bool.and_true, Bool.true_and, Bool.and_self, decide_true, decide_false, eq_self, Vz.Q.v_izd, Vz.Q.par3O_, Vz.Q.v_par3, Vz.Q.v_try, Vz.Q.try_exc, Vz.Q.try_nx, Vz.Q.try_rt, Vz.Q.drop_nx, Vz.Q.drop_rt, Vz.Q.v_raise1, Vz.Q.r1O_, Vz.Q.v_raise0, Vz.Q.v_isNo, Vz.Q.v_isNoN, Vz.Q.isNo_non, Vz.Q.isNo_exn, Vz.Q.v_isX, Vz.Q.isXW_, Vz.Q.v_xf, Vz.Q.xfW_, Vz.Q.v_oseq_t, Vz.Q.v_oseq_l, Vz.Q.enumD_l, Vz.Q.enumD_t, Vz.Q.nums_map, Vz.Q.listD_l, Vz.Q.listD_t, Vz.Q.tupleD_l, Vz.Q.tupleD_t, Vz.Q.lenD_l, Vz.Q.lenD_t, Vz.Q.cutD_l, Vz.Q.cutD_n, Vz.Q.revD_l, Vz.Q.fz_dat, Vz.Q.fz_loc, Vz.Q.fzC_lst, Vz.Q.fzC_frz, Vz.Q.isNN_non, Vz.Q.isNN_int, Vz.Q.isNN_str, Vz.Q.inD_l, Vz.Q.inD_t, Vz.Q.sqB_l, Vz.Q.sqB_t, Bool.false_xor, Bool.true_xor, asI, Vz.Q.walk_dl, Vz.Q.walk_dt, List.length_map, List.map_append, $hs,*])
section
variable {S : Sto} {xs : List Int} {as : List Anc} {it t : D} {ms : List Mark}
end
open PySem PySem.Spec PyProof.Rows L2 Vz Vz.Q Vz.G
section
variable {S : Sto} {xs : List Int} {as : List Anc} {it t : D} {ms : List Mark}
end
open PySem PySem.Spec PyProof.Rows L2 Vz Vz.Q Vz.G
section
variable {S : Sto}
end
open PySem PySem.Spec PyProof.Rows L2 Vz Vz.Q Vz.G
section
variable {S : Sto} {xs : List Int} {as : List Anc} {it t : D} {ms : List Mark}
end
open PySem PySem.Spec PyProof.Rows L2 Vz Vz.Q Vz.G
section
variable {S : Sto} {xs : List Int} {as : List Anc} {it t bg : D} {ms : List Mark}
end
end Vz.H
namespace Vz.G
section
variable {α : Type}
def insAt (q : Int × α) (a : Int) : List (Int × α) → List (Int × α)
 | [] => []
 | z :: Z => if z.1 = a then z :: q :: Z else z :: insAt q a Z
def insA (q : Int × α) : Option Int → List (Int × α) → List (Int × α)
 | none, Z => q :: Z
 | some a, Z => insAt q a Z
variable (f : Option Int → α)
def appA (Z : List (Int × α)) (ds : List (Int × Option Int)) : List (Int × α):=ds.foldl (fun Z d => insA (d.1, f d.2) d.2 Z) Z
variable {f}
theorem insAt_sub {q : Int × α} {a : Int} : ∀ Z : List (Int × α), Z.Sublist (insAt q a Z)
 | [] => .slnil
 | z :: Z => by
  unfold insAt
  split
  ·exact .cons₂ _ (List.sublist_cons_self ..)
  ·exact .cons₂ _ (insAt_sub Z)
theorem insA_sub {q : Int × α} {t : Option Int} (Z : List (Int × α)) : Z.Sublist (insA q t Z):=by
 cases t with
 | none => exact List.sublist_cons_self ..
 | some a => exact insAt_sub Z
theorem appA_sub : ∀ {ds : List (Int × Option Int)} {Z : List (Int × α)}, Z.Sublist (appA f Z ds)
 | [], Z => List.Sublist.refl Z
 | d :: ds, Z => (insA_sub Z).trans (appA_sub (ds:=ds))
def InO (t : Option Int) (Z : List (Int × α)) : Prop:=∀ a, t = some a → a ∈ Z.map Prod.fst
theorem insAt_perm {q : Int × α} {a : Int} : ∀ {Z : List (Int × α)}, a ∈ Z.map Prod.fst → (insAt q a Z).Perm (q :: Z)
 | [], h => nomatch h
 | z :: Z, h => by
  unfold insAt
  split
  ·exact List.Perm.swap ..
  ·rename_i hz
   have : a ∈ Z.map Prod.fst:=by
    rcases List.mem_cons.mp h with e | h
    ·exact absurd e.symm hz
    ·exact h
   exact ((insAt_perm this).cons z).trans (List.Perm.swap ..)
theorem insA_perm {q : Int × α} {t : Option Int} {Z : List (Int × α)} (h : InO t Z) : (insA q t Z).Perm (q :: Z):=by
 cases t with
 | none => exact List.Perm.refl _
 | some a => exact insAt_perm (h a rfl)
def DoOk : List (Int × α) → List (Int × Option Int) → (Option Int → α) → Prop
 | _, [], _ => True
 | Z, d :: ds, f => d.1 ∉ Z.map Prod.fst ∧ InO d.2 Z ∧ DoOk (insA (d.1, f d.2) d.2 Z) ds f
theorem insA_fst {q : Int × α} {t : Option Int} {Z : List (Int × α)} (h : InO t Z) : ((insA q t Z).map Prod.fst).Perm (q.1 :: Z.map Prod.fst):=(insA_perm h).map _
theorem DoOk.mem : ∀ {ds : List (Int × Option Int)} {Z : List (Int × α)} {x : Int}, DoOk Z ds f → (x ∈ (appA f Z ds).map Prod.fst ↔ x ∈ Z.map Prod.fst ∨ x ∈ ds.map Prod.fst)
 | [], Z, x, _ => by simp [appA]
 | d :: ds, Z, x, ⟨h1, h2, h3⟩ => by
  show x ∈ (appA f (insA (d.1, f d.2) d.2 Z) ds).map Prod.fst ↔ _
  rw [h3.mem, (insA_fst h2).mem_iff, List.map_cons, List.mem_cons, List.mem_cons]
  constructor
  ·rintro ((h | h) | h)
   ·exact .inr (.inl h)
   ·exact .inl h
   ·exact .inr (.inr h)
  ·rintro (h | h | h)
   ·exact .inl (.inr h)
   ·exact .inl (.inl h)
   ·exact .inr h
def Bef (x y : Int) (Z : List (Int × α)) : Prop:=[x, y].Sublist (Z.map Prod.fst)
theorem Bef.app {x y : Int} {Z : List (Int × α)} {ds : List (Int × Option Int)} (h : Bef x y Z) : Bef x y (appA f Z ds):=h.trans (appA_sub.map _)
def AB (t : Option Int) (x : Int) (Z : List (Int × α)) : Prop:=match t with
 | none => x ∈ Z.map Prod.fst
 | some a => Bef a x Z
theorem AB.app {t : Option Int} {x : Int} {Z : List (Int × α)} {ds : List (Int × Option Int)} (h : AB t x Z) : AB t x (appA f Z ds):=by
 cases t with
 | none => exact ((appA_sub (f:=f) (ds:=ds) (Z:=Z)).map Prod.fst).subset h
 | some a => exact Bef.app h
theorem DoOk.fresh : ∀ {ds : List (Int × Option Int)} {Z : List (Int × α)}, DoOk Z ds f → ∀ d ∈ ds, d.1 ∉ Z.map Prod.fst
 | d :: ds, Z, ⟨h1, h2, h3⟩, e, he => by
  rcases List.mem_cons.mp he with rfl | he
  ·exact h1
  ·exact fun c => h3.fresh e he ((insA_fst h2).mem_iff.mpr (List.mem_cons_of_mem _ c))
theorem DoOk.anchor : ∀ {ds : List (Int × Option Int)} {Z : List (Int × α)}, DoOk Z ds f → ∀ d ∈ ds, InO d.2 (appA f Z ds)
 | d :: ds, Z, ⟨h1, h2, h3⟩, e, he => by
  rcases List.mem_cons.mp he with rfl | he
  ·intro a ha
   exact ((appA_sub (f:=f) (ds:=e :: ds) (Z:=Z)).map Prod.fst).subset (h2 a ha)
  ·exact h3.anchor e he
theorem DoOk.more : ∀ {ds : List (Int × Option Int)} {Z Z' : List (Int × α)}, DoOk Z ds f → (∀ x ∈ Z.map Prod.fst, x ∈ Z'.map Prod.fst) → (∀ d ∈ ds, d.1 ∉ Z'.map Prod.fst) → DoOk Z' ds f
 | [], _, _, _, _, _ => trivial
 | d :: ds, Z, Z', ⟨h1, h2, h3⟩, hs, hn => by
  have ho : InO d.2 Z':=fun a ha => hs a (h2 a ha)
  refine ⟨hn d (List.mem_cons_self ..), ho, h3.more (fun x hx => ?_) fun e he c => ?_⟩
  ·rcases List.mem_cons.mp ((insA_fst h2).mem_iff.mp hx) with e | hx
   ·exact (insA_fst ho).mem_iff.mpr (e ▸ List.mem_cons_self ..)
   ·exact (insA_fst ho).mem_iff.mpr (List.mem_cons_of_mem _ (hs x hx))
  ·rcases List.mem_cons.mp ((insA_fst ho).mem_iff.mp c) with e1 | c
   ·exact h3.fresh e he ((insA_fst h2).mem_iff.mpr (e1 ▸ List.mem_cons_self ..))
   ·exact hn e (List.mem_cons_of_mem _ he) c
end
end Vz.G
namespace Vz.H
open PySem PySem.Spec PyProof.Rows L2 Vz Vz.Q Vz.G
local macro_rules
 | `(tactic| simp_arith [$hs,*]) => `(tactic| simp -implicitDefEqProofs -dsimp (disch:=first | assumption | omega | (simp only [List.length_map, List.length_append, List.length_cons, List.length_nil, List.length_range, List.length_take, List.length_drop, List.length_replicate, List.length_reverse, List.length_zipIdx]; omega)) only [Vz.Q.ifB_t, Vz.Q.ifB_f, Vz.Q.bind_ok, Vz.Q.bind_exc, Vz.Q.then_ok, Vz.Q.then_exc, Vz.Q.andThen_nx, Vz.Q.andThen_rt, Vz.Q.andThen_exc, Vz.Q.andThen_bk, Vz.Q.andThen_ct, Vz.Q.lift_some, Vz.Q.ofo_some, Vz.Q.get_ok, Vz.Q.noX_ok, Vz.Q.ifO_t, Vz.Q.varO_, Vz.Q.v_var, Vz.Q.v_c, Vz.Q.v_bin, Vz.Q.v_b, Vz.Q.asB_, Vz.Q.v_and, Vz.Q.v_or, Vz.Q.v_not, Vz.Q.v_v, Vz.Q.v_andV, Vz.Q.v_orV, Vz.Q.v_notV, Vz.Q.v_if, Vz.Q.v_chain, Vz.Q.v_anil, Vz.Q.v_acons, Vz.Q.v_tup, Vz.Q.v_tupK, Vz.Q.v_frz, Vz.Q.v_cell, Vz.Q.v_disp, Vz.Q.lsO_, Vz.Q.v_cat, Vz.Q.v_call, Vz.Q.v_lcall, Vz.Q.v_app, Vz.Q.v_appK, Vz.Q.v_nil, Vz.Q.v_pass, Vz.Q.v_seq, Vz.Q.v_break, Vz.Q.v_cont, Vz.Q.v_expr, Vz.Q.v_ret, Vz.Q.v_retN, Vz.Q.v_sif, Vz.Q.v_set, Vz.Q.v_setLc, Vz.Q.v_setLf, Vz.Q.v_aug, Vz.Q.parO_, Vz.Q.v_par, Vz.Q.nxO_, Vz.Q.v_asg, Vz.Q.v_oname, Vz.Q.v_onnil, Vz.Q.v_oncons, Vz.Q.v_otup, Vz.Q.v_osub, Vz.Q.v_fz, Vz.Q.v_meth, Vz.Q.v_meth0, Vz.Q.someR_, Vz.Q.v_index, Vz.Q.v_isi, Vz.Q.v_neg, Vz.Q.v_rev, Vz.Q.v_range, Vz.Q.v_sl, Vz.Q.v_no, Vz.Q.v_yesI, Vz.Q.v_dictT, Vz.Q.v_iseq, Vz.Q.v_iargs, Vz.Q.v_ifr, Vz.Q.rd_dat, Vz.Q.rd_loc, Vz.Q.rdC_lst, Vz.Q.rdC_frz, Vz.Q.rdC_dT, Vz.Q.rdC_dK, Vz.Q.rd2_, Vz.Q.rds_nil, Vz.Q.rds_cons, Vz.Q.dats_nil, Vz.Q.dats_cons, Vz.Q.small_1, Vz.Q.small_2, Vz.Q.small_3, Vz.Q.small_0, Vz.Q.small_, Vz.Q.one_, Vz.Q.two_, Vz.Q.frd_dat, Vz.Q.frd_loc, Vz.Q.frdC_frz, Vz.Q.frds_nil, Vz.Q.frds_cons, Vz.Q.LstW_, Vz.Q.lstB_, Vz.Q.lstC_, Vz.Q.lstO_, Vz.Q.v_append, Vz.Q.v_insert, Vz.Q.v_extend, Vz.Q.v_popAt, Vz.Q.asInt_, Vz.Q.asLs_, Vz.Q.v_stB, Vz.Q.lim_app, Vz.Q.lim_le, Vz.Q.lim_lt, Vz.Q.addL_, Vz.Q.addD_ll, Vz.Q.addD_tt, Option.bind_some, Option.map_some, addD_ii, subI_ii, ltI_ii, leI_ii, gtI_ii, geI_ii, eqD_ii, isN_non, isN_int, isN_str, List.getElem?_cons_zero, List.getElem?_cons_succ, List.set_cons_zero, List.set_cons_succ, List.length_cons, List.length_nil, List.length_append, Nat.zero_add, Nat.add_zero, Nat.reduceAdd, Nat.reduceSub, Nat.reduceEqDiff, at_app0, at_appk, set_app0, set_appk, List.append_assoc, List.cons_append, List.nil_append, List.append_nil, List.map_cons, List.map_nil, List.replicate, Vz.Q.fn_dat, Vz.Q.fn_nx, Vz.Q.fn_exc, Vz.Q.fn_exn, Vz.Q.fn_loc, Vz.Q.retC_lst, Vz.Q.retC_frz, Vz.Q.retC_dT, Vz.Q.retC_dK, Vz.Q.bodyF_, Vz.Q.bodyO_, Vz.Q.cutR_nil, Vz.Q.cutR_cons, Vz.Q.cutW_dat, Vz.Q.cutW_none, Vz.Q.cutW_exn, Vz.Q.cutW_loc, Vz.Q.cutW_locN, wipeR, List.take_succ_cons, List.take_length, List.take_left, take_appk, List.take_zero, List.take_nil, Vz.Q.v_yes, Vz.Q.v_lcB, Vz.Q.lcO_, Vz.Q.v_cname, Vz.Q.v_ctup, Vz.Q.v_cnnil, Vz.Q.v_cncons, Vz.Q.bb_tf, Vz.Q.bb_ft, Vz.Q.bb_tt, Vz.Q.bb_ff, Vz.Q.bn_tf, Vz.Q.bn_ft, Vz.Q.bn_tt, Vz.Q.bn_ff, eqD_bb, neD_bb, Bool.not_true, Bool.not_false, Bool.and_true, Bool.true_and, Bool.and_self, decide_true, decide_false, eq_self, $hs,*])
local macro_rules
 | `(tactic| simp_arith! [$hs,*]) => `(tactic| simp -implicitDefEqProofs -dsimp (disch:=first | assumption | omega | (simp only [List.length_map, List.length_append, List.length_cons, List.length_nil, List.length_range, List.length_take, List.length_drop, List.length_replicate, List.length_reverse, List.length_zipIdx]; omega)) only [Vz.Q.ifB_t, Vz.Q.ifB_f, Vz.Q.bind_ok, Vz.Q.bind_exc, Vz.Q.then_ok, Vz.Q.then_exc, Vz.Q.andThen_nx, Vz.Q.andThen_rt, Vz.Q.andThen_exc, Vz.Q.andThen_bk, Vz.Q.andThen_ct, Vz.Q.lift_some, Vz.Q.ofo_some, Vz.Q.get_ok, Vz.Q.noX_ok, Vz.Q.ifO_t, Vz.Q.varO_, Vz.Q.v_var, Vz.Q.v_c, Vz.Q.v_bin, Vz.Q.v_b, Vz.Q.asB_, Vz.Q.v_and, Vz.Q.v_or, Vz.Q.v_not, Vz.Q.v_v, Vz.Q.v_andV, Vz.Q.v_orV, Vz.Q.v_notV, Vz.Q.v_if, Vz.Q.v_chain, Vz.Q.v_anil, Vz.Q.v_acons, Vz.Q.v_tup, Vz.Q.v_tupK, Vz.Q.v_frz, Vz.Q.v_cell, Vz.Q.v_disp, Vz.Q.lsO_, Vz.Q.v_cat, Vz.Q.v_call, Vz.Q.v_lcall, Vz.Q.v_app, Vz.Q.v_appK, Vz.Q.v_nil, Vz.Q.v_pass, Vz.Q.v_seq, Vz.Q.v_break, Vz.Q.v_cont, Vz.Q.v_expr, Vz.Q.v_ret, Vz.Q.v_retN, Vz.Q.v_sif, Vz.Q.v_set, Vz.Q.v_setLc, Vz.Q.v_setLf, Vz.Q.v_aug, Vz.Q.parO_, Vz.Q.v_par, Vz.Q.nxO_, Vz.Q.v_asg, Vz.Q.v_oname, Vz.Q.v_onnil, Vz.Q.v_oncons, Vz.Q.v_otup, Vz.Q.v_osub, Vz.Q.v_fz, Vz.Q.v_meth, Vz.Q.v_meth0, Vz.Q.someR_, Vz.Q.v_index, Vz.Q.v_isi, Vz.Q.v_neg, Vz.Q.v_rev, Vz.Q.v_range, Vz.Q.v_sl, Vz.Q.v_no, Vz.Q.v_yesI, Vz.Q.v_dictT, Vz.Q.v_iseq, Vz.Q.v_iargs, Vz.Q.v_ifr, Vz.Q.rd_dat, Vz.Q.rd_loc, Vz.Q.rdC_lst, Vz.Q.rdC_frz, Vz.Q.rdC_dT, Vz.Q.rdC_dK, Vz.Q.rd2_, Vz.Q.rds_nil, Vz.Q.rds_cons, Vz.Q.dats_nil, Vz.Q.dats_cons, Vz.Q.small_1, Vz.Q.small_2, Vz.Q.small_3, Vz.Q.small_0, Vz.Q.small_, Vz.Q.one_, Vz.Q.two_, Vz.Q.frd_dat, Vz.Q.frd_loc, Vz.Q.frdC_frz, Vz.Q.frds_nil, Vz.Q.frds_cons, Vz.Q.LstW_, Vz.Q.lstB_, Vz.Q.lstC_, Vz.Q.lstO_, Vz.Q.v_append, Vz.Q.v_insert, Vz.Q.v_extend, Vz.Q.v_popAt, Vz.Q.asInt_, Vz.Q.asLs_, Vz.Q.v_stB, Vz.Q.lim_app, Vz.Q.lim_le, Vz.Q.lim_lt, Vz.Q.addL_, Vz.Q.addD_ll, Vz.Q.addD_tt, Option.bind_some, Option.map_some, addD_ii, subI_ii, ltI_ii, leI_ii, gtI_ii, geI_ii, eqD_ii, isN_non, isN_int, isN_str, List.getElem?_cons_zero, List.getElem?_cons_succ, List.set_cons_zero, List.set_cons_succ, List.length_cons, List.length_nil, List.length_append, Nat.zero_add, Nat.add_zero, Nat.reduceAdd, Nat.reduceSub, Nat.reduceEqDiff, at_app0, at_appk, set_app0, set_appk, List.append_assoc, List.cons_append, List.nil_append, List.append_nil, List.map_cons, List.map_nil, List.replicate, Vz.Q.fn_dat, Vz.Q.fn_nx, Vz.Q.fn_exc, Vz.Q.fn_exn, Vz.Q.fn_loc, Vz.Q.retC_lst, Vz.Q.retC_frz, Vz.Q.retC_dT, Vz.Q.retC_dK, Vz.Q.bodyF_, Vz.Q.bodyO_, Vz.Q.cutR_nil, Vz.Q.cutR_cons, Vz.Q.cutW_dat, Vz.Q.cutW_none, Vz.Q.cutW_exn, Vz.Q.cutW_loc, Vz.Q.cutW_locN, wipeR, List.take_succ_cons, List.take_length, List.take_left, take_appk, List.take_zero, List.take_nil, Vz.Q.v_yes, Vz.Q.v_lcB, Vz.Q.lcO_, Vz.Q.v_cname, Vz.Q.v_ctup, Vz.Q.v_cnnil, Vz.Q.v_cncons, Vz.Q.bb_tf, Vz.Q.bb_ft, Vz.Q.bb_tt, Vz.Q.bb_ff, Vz.Q.bn_tf, Vz.Q.bn_ft, Vz.Q.bn_tt, Vz.Q.bn_ff, eqD_bb, neD_bb, Bool.not_true, Bool.not_false, Bool.and_true, Bool.true_and, Bool.and_self, decide_true, decide_false, eq_self, Vz.Q.v_izd, Vz.Q.par3O_, Vz.Q.v_par3, Vz.Q.v_try, Vz.Q.try_exc, Vz.Q.try_nx, Vz.Q.try_rt, Vz.Q.drop_nx, Vz.Q.drop_rt, Vz.Q.v_raise1, Vz.Q.r1O_, Vz.Q.v_raise0, Vz.Q.v_isNo, Vz.Q.v_isNoN, Vz.Q.isNo_non, Vz.Q.isNo_exn, Vz.Q.v_isX, Vz.Q.isXW_, Vz.Q.v_xf, Vz.Q.xfW_, Vz.Q.v_oseq_t, Vz.Q.v_oseq_l, Vz.Q.enumD_l, Vz.Q.enumD_t, Vz.Q.nums_map, Vz.Q.listD_l, Vz.Q.listD_t, Vz.Q.tupleD_l, Vz.Q.tupleD_t, Vz.Q.lenD_l, Vz.Q.lenD_t, Vz.Q.cutD_l, Vz.Q.cutD_n, Vz.Q.revD_l, Vz.Q.fz_dat, Vz.Q.fz_loc, Vz.Q.fzC_lst, Vz.Q.fzC_frz, Vz.Q.isNN_non, Vz.Q.isNN_int, Vz.Q.isNN_str, Vz.Q.inD_l, Vz.Q.inD_t, Vz.Q.sqB_l, Vz.Q.sqB_t, Bool.false_xor, Bool.true_xor, asI, Vz.Q.walk_dl, Vz.Q.walk_dt, List.length_map, List.map_append, $hs,*])
section
variable {S : Sto}
abbrev ZL:=List (Int × Anc)
abbrev appZ (Z : ZL) (ds : List (Int × Option Int)) : ZL:=appA ancV Z ds
end
end Vz.H
namespace Vz
open PySem PySem.Spec PyProof.Rows L2
section
open LamX
variable {X : Cx} {pin : List (Addr × Obj)} {τ : L2.St} {G : Hp} {t : Shared}
end
end Vz
namespace Vz
open PySem PySem.Spec PyProof.Rows L2
def tRun (T : Tb) (K : PySem.W.Frag) (GR : (Sto → R W) → Sto → R W) (tl : XK → Hp → VK → Prop) (H : Hp) (Q : VK) : Prop :=
 ∃ G F A S th, Wd (T.g G) K F A S H ∧ (∀ H1, Wd (T.g G) K F A S H1 → ∀ E Q', Post (T.g G) K (RepW K) F A (th S) Q' E → tl E H1 Q') ∧ Post (T.g G) K (RepW K) F A (GR th S) Q fun _ _ _ => False
abbrev noXK : XK:=fun _ _ _ => False
structure Runs (T : Tb) (P : Program) (w : World) (K : PySem.W.Frag) (mg : Str → Option Value) (base : Heap) (k : Nat) (x : Str) (GR : (Sto → R W) → Sto → R W) : Prop where
 keep : PySem.W.keepIn K (.ref (He.ga K x)) = true
 glo : mg x = some (.ref (He.ga K x))
 ex : ∃ (N : List Str) (y : Str) (pg : Arguments) (body : List Stmt) (sg : Scope) (dV kV doc pm cdv ct oc : Value) (an od : Option Addr) (osl : Array (Option Value)), K.lookup (He.ga K x) = some ⟨oc, od, .func (PySem.W.fnOf x x pg body sg dV kV doc pm an cdv ct), osl⟩ ∧
  PySem.W.codeIn K cdv x = true ∧ Binds K (PySem.W.fnOf x x pg body sg dV kV doc pm an cdv ct) [y] [] ∧ FnScope N [y] sg ∧ N[0]? = some y ∧ Vis sg y ∧ (y == ("__debug__" : Str)) = false ∧ (y == ("__classdict__" : Str)) = false ∧
  ∀ (A : Around) (outer : List PySem.Env) (s : Shared) (H : Hp) (f c : Addr) (q : Str) (Q : VK) (tl : XK → Hp → VK → Prop), Room k (A.deeper (envOfC x sg s.heap.objs.size (He.ga K x) cdv)) → Free A →
   (∀ (W : WX) (pn : List (Addr × Obj)) (xe : Value → Shared → Prop) (E : XK) (p1 p2 : Pos), Takes ((cxOf (L2.CX P w) P w K mg base N x sg (He.ga K x) cdv A outer s H noXK).tr pn xe) W → (∀ cls d σ' H', E cls d H' → W cls d σ' H') →
    PE ((cxOf (L2.CX P w) P w K mg base N x sg (He.ga K x) cdv A outer s H noXK).tr pn xe) (.Call (.Name y p1) [] [] p2) (fun σ1 H1 Q => σ1[0]? = some (some (.ref f)) ∧ H1 c = some (LamX.CodeO c q) ∧ tl E H1 Q)) →
   H c = some (LamX.CodeO c q) → tRun T K GR tl H Q → ∃ u, PSs (cxOf (L2.CX P w) P w K mg base N x sg (He.ga K x) cdv A outer s H noXK) body u ∧ u { nx:=fun _ H' => Q .non H', rt:=Q } (L2.start N [.ref f]) H
def fLam (GR : (Sto → R W) → Sto → R W) (g : FE) : FE:=fun ρ S => (GR (fun S' => g ρ S') S).noX
theorem Post.noX {α β : Type} {T : Tb} {K : PySem.W.Frag} {F : Hp} {A : List (List Addr)} {rel : Hp → List (List Addr) → α → β → Prop} {r : R α} {Q : β → Hp → Prop} {E E' : XK} (h : Post T K rel F A r.noX Q E) : Post T K rel F A r Q E':=by
 cases r with
 | ok a S => exact h
 | exc x S => exact h.elim
 | bad => exact h.elim
section
variable {T : Tb} {X : Cx} {Wx : WX} {k : Nat} {x : Str} {GR : (Sto → R W) → Sto → R W} {pa : Arguments} {bd : Expr} {sc : Scope} {c P : Addr} {gb : FE} {p pl pos : Pos}
end
section
variable {T : Tb} {X : Cx}
end
theorem Runs.mono {T : Tb} {P : Program} {w : World} {K : PySem.W.Frag} {mg : Str → Option Value} {base : Heap} {j k : Nat} {x : Str} {GR : (Sto → R W) → Sto → R W} (O : Runs T P w K mg base j x GR) (h : j ≤ k) : Runs T P w K mg base k x GR:=by
 obtain ⟨h1, h2, N, y, pg, body, sg, dV, kV, doc, pm, cdv, ct, oc, an, od, osl, a1, a2, a3, a4, a5, a6, a7, a8, run⟩:=O
 exact ⟨h1, h2, N, y, pg, body, sg, dV, kV, doc, pm, cdv, ct, oc, an, od, osl, a1, a2, a3, a4, a5, a6, a7, a8, fun A outer s H f c q Q tl hr => run A outer s H f c q Q tl (hr.mono h)⟩
end Vz
namespace Vz
open PySem PySem.Spec PyProof.Rows L2
section
variable {P : Program} {w : World} {K : PySem.W.Frag} {mg mb : Str → Option Value} {CX : CXT} {k : Nat} {fa a : Addr} {fd : FuncData} {x : Str} {sp : Sp} {t : Shared} {us : List Value} {ns : List Int} {cs : List (Addr × Addr)}
structure TabsAt (K : PySem.W.Frag) (h : Heap) (cs : List (Addr × Addr)) : Prop where
 tab : ∀ p ∈ cs, h.get? p.2 = some { cls:=.none, data:=.fields #[] }
 out : ∀ p ∈ cs, K.lookup p.2 = none
 code : ∀ p ∈ cs, PySem.W.CodeHd h p.1 p.2
theorem TabsAt.is (B : TabsAt K t.heap cs) {b : Addr} (hb : b ∈ cs.map Prod.snd) : ∃ p ∈ cs, p.2 = b ∧ t.heap.get? b = some { cls:=.none, data:=.fields #[] }:=by
 obtain ⟨p, hp, e⟩:=List.mem_map.mp hb
 exact ⟨p, hp, e, by rw [← e]; exact B.tab p hp⟩
end
end Vz
namespace Vz
open PySem PySem.Spec PyProof.Rows L2
def cdA (K : PySem.W.Frag) (x : Str) : Addr:=match K.lookup (He.ga K x) with
 | some ⟨_, _, .func fd, _⟩ => (match fd.code with
  | .ref c => c
  | _ => 0)
 | _ => 0
def tbA (K : PySem.W.Frag) (x : Str) : Addr:=match K.lookup (cdA K x) with
 | some ⟨_, _, .fields vs, _⟩ => (match vs.getD 11 .none with
  | .ref p => p
  | _ => 0)
 | _ => 0
def lamN (x : Str) : Str:=x ++ ".<locals>." ++ "<lambda>"
abbrev TL (ls : List Str) (K : PySem.W.Frag) : Tb:=⟨fun c => some (He.ga K c), fun _ => none, ls.map fun x => (tbA K x, lamN x)⟩
structure LamAt (h : Heap) (K : PySem.W.Frag) (ls : List Str) : Prop where
 tabs : TabsAt K h (ls.map fun x => (cdA K x, tbA K x))
 dif : (ls.map (tbA K)).Nodup
structure Tabd (K : PySem.W.Frag) (mg : Str → Option Value) (base : Heap) (ls : List Str) : Prop where
 at_ : ∀ x ∈ ls, LamX.TabB base mg (cdA K x) (tbA K x)
 dif : (ls.map (tbA K)).Nodup
theorem Tabd.mem {K : PySem.W.Frag} {ls : List Str} {x : Str} (hx : x ∈ ls) : (tbA K x, x ++ ".<locals>." ++ "<lambda>") ∈ (TL ls K).tabs:=List.mem_map.mpr ⟨x, hx, rfl⟩
end Vz
namespace Vz.Q
open PySem PySem.Spec PyProof.Rows L2 Vz
variable {ρ : Rho} {S : Sto}
def cntB (b : Bool) (c d : D) : Option Nat:=match sqB c with
 | some b' => (match decide (b' = b) with
  | true => cntOf c d
  | false => none)
 | none => none
theorem v_count {f : FE} {ga : FA} : fCount f ga ρ S = bindT (f ρ S) (fun w S1 => someR ((rd S1 w).bind sqB) (fun b => bindT (ga ρ S1) (fun ws S2 => R.lift (((rd S2 w).bind fun c => (rds S2 ws).bind (one fun d => cntB b c d)).map fun j => .dat (.int (j : Nat))) S2) .mk) .mk) .mk:=by
 unfold fCount
 cases f ρ S with
 | ok w S1 =>
  show (match (rd S1 w).bind sqB with | some b => _ | none => R.bad) = someR ((rd S1 w).bind sqB) _ .mk
  cases (rd S1 w).bind sqB <;> rfl
 | exc x S1 => rfl
 | bad => rfl
theorem cntB_l {xs : List D} {d : D} : cntB false (.list xs) d = cntOf (.list xs) d:=rfl
theorem v_lam {GR : (Sto → R W) → Sto → R W} {g : FE} : fLam GR g ρ S = (GR (fun S' => g ρ S') S).noX:=rfl
theorem v_cseq_t {n : Nat} {gs : List D → Rho → Option Rho} {f : Fl} {ds : List D} : cSeq n gs (.tup f ds) ρ = ifO (decide (ds.length = n)) (gs ds ρ):=rfl
theorem v_cseq_l {n : Nat} {gs : List D → Rho → Option Rho} {ds : List D} : cSeq n gs (.list ds) ρ = ifO (decide (ds.length = n)) (gs ds ρ):=rfl
end Vz.Q
namespace Vz.H
open PySem PySem.Spec PyProof.Rows L2 Vz Vz.Q Vz.G
local macro_rules
 | `(tactic| simp_arith [$hs,*]) => `(tactic| simp -implicitDefEqProofs -dsimp (disch:=first | assumption | omega | (simp only [List.length_map, List.length_append, List.length_cons, List.length_nil, List.length_range, List.length_take, List.length_drop, List.length_replicate, List.length_reverse, List.length_zipIdx]; omega)) only [Vz.Q.ifB_t, Vz.Q.ifB_f, Vz.Q.bind_ok, Vz.Q.bind_exc, Vz.Q.then_ok, Vz.Q.then_exc, Vz.Q.andThen_nx, Vz.Q.andThen_rt, Vz.Q.andThen_exc, Vz.Q.andThen_bk, Vz.Q.andThen_ct, Vz.Q.lift_some, Vz.Q.ofo_some, Vz.Q.get_ok, Vz.Q.noX_ok, Vz.Q.ifO_t, Vz.Q.varO_, Vz.Q.v_var, Vz.Q.v_c, Vz.Q.v_bin, Vz.Q.v_b, Vz.Q.asB_, Vz.Q.v_and, Vz.Q.v_or, Vz.Q.v_not, Vz.Q.v_v, Vz.Q.v_andV, Vz.Q.v_orV, Vz.Q.v_notV, Vz.Q.v_if, Vz.Q.v_chain, Vz.Q.v_anil, Vz.Q.v_acons, Vz.Q.v_tup, Vz.Q.v_tupK, Vz.Q.v_frz, Vz.Q.v_cell, Vz.Q.v_disp, Vz.Q.lsO_, Vz.Q.v_cat, Vz.Q.v_call, Vz.Q.v_lcall, Vz.Q.v_app, Vz.Q.v_appK, Vz.Q.v_nil, Vz.Q.v_pass, Vz.Q.v_seq, Vz.Q.v_break, Vz.Q.v_cont, Vz.Q.v_expr, Vz.Q.v_ret, Vz.Q.v_retN, Vz.Q.v_sif, Vz.Q.v_set, Vz.Q.v_setLc, Vz.Q.v_setLf, Vz.Q.v_aug, Vz.Q.parO_, Vz.Q.v_par, Vz.Q.nxO_, Vz.Q.v_asg, Vz.Q.v_oname, Vz.Q.v_onnil, Vz.Q.v_oncons, Vz.Q.v_otup, Vz.Q.v_osub, Vz.Q.v_fz, Vz.Q.v_meth, Vz.Q.v_meth0, Vz.Q.someR_, Vz.Q.v_index, Vz.Q.v_isi, Vz.Q.v_neg, Vz.Q.v_rev, Vz.Q.v_range, Vz.Q.v_sl, Vz.Q.v_no, Vz.Q.v_yesI, Vz.Q.v_dictT, Vz.Q.v_iseq, Vz.Q.v_iargs, Vz.Q.v_ifr, Vz.Q.rd_dat, Vz.Q.rd_loc, Vz.Q.rdC_lst, Vz.Q.rdC_frz, Vz.Q.rdC_dT, Vz.Q.rdC_dK, Vz.Q.rd2_, Vz.Q.rds_nil, Vz.Q.rds_cons, Vz.Q.dats_nil, Vz.Q.dats_cons, Vz.Q.small_1, Vz.Q.small_2, Vz.Q.small_3, Vz.Q.small_0, Vz.Q.small_, Vz.Q.one_, Vz.Q.two_, Vz.Q.frd_dat, Vz.Q.frd_loc, Vz.Q.frdC_frz, Vz.Q.frds_nil, Vz.Q.frds_cons, Vz.Q.LstW_, Vz.Q.lstB_, Vz.Q.lstC_, Vz.Q.lstO_, Vz.Q.v_append, Vz.Q.v_insert, Vz.Q.v_extend, Vz.Q.v_popAt, Vz.Q.asInt_, Vz.Q.asLs_, Vz.Q.v_stB, Vz.Q.lim_app, Vz.Q.lim_le, Vz.Q.lim_lt, Vz.Q.addL_, Vz.Q.addD_ll, Vz.Q.addD_tt, Option.bind_some, Option.map_some, addD_ii, subI_ii, ltI_ii, leI_ii, gtI_ii, geI_ii, eqD_ii, isN_non, isN_int, isN_str, List.getElem?_cons_zero, List.getElem?_cons_succ, List.set_cons_zero, List.set_cons_succ, List.length_cons, List.length_nil, List.length_append, Nat.zero_add, Nat.add_zero, Nat.reduceAdd, Nat.reduceSub, Nat.reduceEqDiff, at_app0, at_appk, set_app0, set_appk, List.append_assoc, List.cons_append, List.nil_append, List.append_nil, List.map_cons, List.map_nil, List.replicate, Vz.Q.fn_dat, Vz.Q.fn_nx, Vz.Q.fn_exc, Vz.Q.fn_exn, Vz.Q.fn_loc, Vz.Q.retC_lst, Vz.Q.retC_frz, Vz.Q.retC_dT, Vz.Q.retC_dK, Vz.Q.bodyF_, Vz.Q.bodyO_, Vz.Q.cutR_nil, Vz.Q.cutR_cons, Vz.Q.cutW_dat, Vz.Q.cutW_none, Vz.Q.cutW_exn, Vz.Q.cutW_loc, Vz.Q.cutW_locN, wipeR, List.take_succ_cons, List.take_length, List.take_left, take_appk, List.take_zero, List.take_nil, Vz.Q.v_yes, Vz.Q.v_lcB, Vz.Q.lcO_, Vz.Q.v_cname, Vz.Q.v_ctup, Vz.Q.v_cnnil, Vz.Q.v_cncons, Vz.Q.bb_tf, Vz.Q.bb_ft, Vz.Q.bb_tt, Vz.Q.bb_ff, Vz.Q.bn_tf, Vz.Q.bn_ft, Vz.Q.bn_tt, Vz.Q.bn_ff, eqD_bb, neD_bb, Bool.not_true, Bool.not_false, Bool.and_true, Bool.true_and, Bool.and_self, decide_true, decide_false, eq_self, $hs,*])
local macro_rules
 | `(tactic| simp_arith! [$hs,*]) => `(tactic| simp -implicitDefEqProofs -dsimp (disch:=first | assumption | omega | (simp only [List.length_map, List.length_append, List.length_cons, List.length_nil, List.length_range, List.length_take, List.length_drop, List.length_replicate, List.length_reverse, List.length_zipIdx]; omega)) only [Vz.Q.ifB_t, Vz.Q.ifB_f, Vz.Q.bind_ok, Vz.Q.bind_exc, Vz.Q.then_ok, Vz.Q.then_exc, Vz.Q.andThen_nx, Vz.Q.andThen_rt, Vz.Q.andThen_exc, Vz.Q.andThen_bk, Vz.Q.andThen_ct, Vz.Q.lift_some, Vz.Q.ofo_some, Vz.Q.get_ok, Vz.Q.noX_ok, Vz.Q.ifO_t, Vz.Q.varO_, Vz.Q.v_var, Vz.Q.v_c, Vz.Q.v_bin, Vz.Q.v_b, Vz.Q.asB_, Vz.Q.v_and, Vz.Q.v_or, Vz.Q.v_not, Vz.Q.v_v, Vz.Q.v_andV, Vz.Q.v_orV, Vz.Q.v_notV, Vz.Q.v_if, Vz.Q.v_chain, Vz.Q.v_anil, Vz.Q.v_acons, Vz.Q.v_tup, Vz.Q.v_tupK, Vz.Q.v_frz, Vz.Q.v_cell, Vz.Q.v_disp, Vz.Q.lsO_, Vz.Q.v_cat, Vz.Q.v_call, Vz.Q.v_lcall, Vz.Q.v_app, Vz.Q.v_appK, Vz.Q.v_nil, Vz.Q.v_pass, Vz.Q.v_seq, Vz.Q.v_break, Vz.Q.v_cont, Vz.Q.v_expr, Vz.Q.v_ret, Vz.Q.v_retN, Vz.Q.v_sif, Vz.Q.v_set, Vz.Q.v_setLc, Vz.Q.v_setLf, Vz.Q.v_aug, Vz.Q.parO_, Vz.Q.v_par, Vz.Q.nxO_, Vz.Q.v_asg, Vz.Q.v_oname, Vz.Q.v_onnil, Vz.Q.v_oncons, Vz.Q.v_otup, Vz.Q.v_osub, Vz.Q.v_fz, Vz.Q.v_meth, Vz.Q.v_meth0, Vz.Q.someR_, Vz.Q.v_index, Vz.Q.v_isi, Vz.Q.v_neg, Vz.Q.v_rev, Vz.Q.v_range, Vz.Q.v_sl, Vz.Q.v_no, Vz.Q.v_yesI, Vz.Q.v_dictT, Vz.Q.v_iseq, Vz.Q.v_iargs, Vz.Q.v_ifr, Vz.Q.rd_dat, Vz.Q.rd_loc, Vz.Q.rdC_lst, Vz.Q.rdC_frz, Vz.Q.rdC_dT, Vz.Q.rdC_dK, Vz.Q.rd2_, Vz.Q.rds_nil, Vz.Q.rds_cons, Vz.Q.dats_nil, Vz.Q.dats_cons, Vz.Q.small_1, Vz.Q.small_2, Vz.Q.small_3, Vz.Q.small_0, Vz.Q.small_, Vz.Q.one_, Vz.Q.two_, Vz.Q.frd_dat, Vz.Q.frd_loc, Vz.Q.frdC_frz, Vz.Q.frds_nil, Vz.Q.frds_cons, Vz.Q.LstW_, Vz.Q.lstB_, Vz.Q.lstC_, Vz.Q.lstO_, Vz.Q.v_append, Vz.Q.v_insert, Vz.Q.v_extend, Vz.Q.v_popAt, Vz.Q.asInt_, Vz.Q.asLs_, Vz.Q.v_stB, Vz.Q.lim_app, Vz.Q.lim_le, Vz.Q.lim_lt, Vz.Q.addL_, Vz.Q.addD_ll, Vz.Q.addD_tt, Option.bind_some, Option.map_some, addD_ii, subI_ii, ltI_ii, leI_ii, gtI_ii, geI_ii, eqD_ii, isN_non, isN_int, isN_str, List.getElem?_cons_zero, List.getElem?_cons_succ, List.set_cons_zero, List.set_cons_succ, List.length_cons, List.length_nil, List.length_append, Nat.zero_add, Nat.add_zero, Nat.reduceAdd, Nat.reduceSub, Nat.reduceEqDiff, at_app0, at_appk, set_app0, set_appk, List.append_assoc, List.cons_append, List.nil_append, List.append_nil, List.map_cons, List.map_nil, List.replicate, Vz.Q.fn_dat, Vz.Q.fn_nx, Vz.Q.fn_exc, Vz.Q.fn_exn, Vz.Q.fn_loc, Vz.Q.retC_lst, Vz.Q.retC_frz, Vz.Q.retC_dT, Vz.Q.retC_dK, Vz.Q.bodyF_, Vz.Q.bodyO_, Vz.Q.cutR_nil, Vz.Q.cutR_cons, Vz.Q.cutW_dat, Vz.Q.cutW_none, Vz.Q.cutW_exn, Vz.Q.cutW_loc, Vz.Q.cutW_locN, wipeR, List.take_succ_cons, List.take_length, List.take_left, take_appk, List.take_zero, List.take_nil, Vz.Q.v_yes, Vz.Q.v_lcB, Vz.Q.lcO_, Vz.Q.v_cname, Vz.Q.v_ctup, Vz.Q.v_cnnil, Vz.Q.v_cncons, Vz.Q.bb_tf, Vz.Q.bb_ft, Vz.Q.bb_tt, Vz.Q.bb_ff, Vz.Q.bn_tf, Vz.Q.bn_ft, Vz.Q.bn_tt, Vz.Q.bn_ff, eqD_bb, neD_bb, Bool.not_true, Bool.not_false, Bool.and_true, Bool.true_and, Bool.and_self, decide_true, decide_false, eq_self, Vz.Q.v_count, Vz.Q.cntB_l, Vz.Q.v_lam, Vz.Q.v_cat, Vz.Q.v_cseq_t, Vz.Q.v_cseq_l, Vz.Q.v_izd, Vz.Q.par3O_, Vz.Q.v_par3, Vz.Q.v_try, Vz.Q.try_exc, Vz.Q.try_nx, Vz.Q.try_rt, Vz.Q.drop_nx, Vz.Q.drop_rt, Vz.Q.v_raise1, Vz.Q.r1O_, Vz.Q.v_raise0, Vz.Q.v_isNo, Vz.Q.v_isNoN, Vz.Q.isNo_non, Vz.Q.isNo_exn, Vz.Q.v_isX, Vz.Q.isXW_, Vz.Q.v_xf, Vz.Q.xfW_, Vz.Q.v_oseq_t, Vz.Q.v_oseq_l, Vz.Q.enumD_l, Vz.Q.enumD_t, Vz.Q.nums_map, Vz.Q.listD_l, Vz.Q.listD_t, Vz.Q.tupleD_l, Vz.Q.tupleD_t, Vz.Q.lenD_l, Vz.Q.lenD_t, Vz.Q.cutD_l, Vz.Q.cutD_n, Vz.Q.revD_l, Vz.Q.fz_dat, Vz.Q.fz_loc, Vz.Q.fzC_lst, Vz.Q.fzC_frz, Vz.Q.isNN_non, Vz.Q.isNN_int, Vz.Q.isNN_str, Vz.Q.inD_l, Vz.Q.inD_t, Vz.Q.sqB_l, Vz.Q.sqB_t, Bool.false_xor, Bool.true_xor, asI, Vz.Q.walk_dl, Vz.Q.walk_dt, List.length_map, List.map_append, $hs,*])
section
variable {S : Sto}
end
open PySem PySem.Spec PyProof.Rows L2 Vz Vz.Q Vz.G
section
variable {S : Sto} {Z : ZL} {ds es : List (Int × Option Int)}
theorem places {xs qs : List Int} (hnd : xs.Nodup) (hq : qs.Perm xs) : ∃ π : List Nat, π.Perm (List.range xs.length) ∧ qs = π.map (key xs):=by
 refine ⟨qs.map xs.idxOf, ?_, ?_⟩
 ·have e : (List.range xs.length) = xs.map xs.idxOf:=by
   refine List.ext_getElem (by simp) fun i h1 h2 => ?_
   rw [List.getElem_map, List.getElem_range]
   rw [List.length_map] at h2
   exact (hnd.idxOf_getElem i h2).symm
  rw [e]
  exact hq.map _
 ·rw [List.map_map]
  conv => lhs; rw [← List.map_id qs]
  refine List.map_congr_left fun v hv => ?_
  have hv:=List.idxOf_lt_length_of_mem (hq.mem_iff.mp hv)
  show v = key xs (xs.idxOf v)
  unfold key
  rw [List.getD_eq_getElem?_getD, List.getElem?_eq_getElem hv]
  exact (List.getElem_idxOf hv).symm
end
end Vz.H
namespace Vz.Q
open PySem PySem.Spec PyProof.Rows L2 Vz
variable {ρ : Rho} {S : Sto}
theorem v_bor {f : FE} : fBor f ρ S = borO S (f (ρ.map (borW S)) []):=rfl
theorem borO_b {b : Bool} {S1 : Sto} : borO S (.ok (.dat (.bool b)) S1) = .ok (.dat (.bool b)) S:=rfl
theorem borW_dat {d : D} : borW S (some (.dat d)) = some (.dat d):=rfl
theorem borW_none : borW S none = none:=rfl
theorem borW_loc {k : Nat} : borW S (some (.loc k 0)) = borC S[k]?:=rfl
theorem borC_lst {xs : List D} : borC (some (.lst xs)) = some (.dat (.list xs)):=rfl
theorem borC_frz {d : D} : borC (some (.frz d)) = some (.dat d):=rfl
end Vz.Q
namespace Vz.H
open PySem PySem.Spec PyProof.Rows L2 Vz Vz.Q Vz.G
local macro_rules
 | `(tactic| simp_arith [$hs,*]) => `(tactic| simp -implicitDefEqProofs -dsimp (disch:=first | assumption | omega | (simp only [List.length_map, List.length_append, List.length_cons, List.length_nil, List.length_range, List.length_take, List.length_drop, List.length_replicate, List.length_reverse, List.length_zipIdx]; omega)) only [Vz.Q.ifB_t, Vz.Q.ifB_f, Vz.Q.bind_ok, Vz.Q.bind_exc, Vz.Q.then_ok, Vz.Q.then_exc, Vz.Q.andThen_nx, Vz.Q.andThen_rt, Vz.Q.andThen_exc, Vz.Q.andThen_bk, Vz.Q.andThen_ct, Vz.Q.lift_some, Vz.Q.ofo_some, Vz.Q.get_ok, Vz.Q.noX_ok, Vz.Q.ifO_t, Vz.Q.varO_, Vz.Q.v_var, Vz.Q.v_c, Vz.Q.v_bin, Vz.Q.v_b, Vz.Q.asB_, Vz.Q.v_and, Vz.Q.v_or, Vz.Q.v_not, Vz.Q.v_v, Vz.Q.v_andV, Vz.Q.v_orV, Vz.Q.v_notV, Vz.Q.v_if, Vz.Q.v_chain, Vz.Q.v_anil, Vz.Q.v_acons, Vz.Q.v_tup, Vz.Q.v_tupK, Vz.Q.v_frz, Vz.Q.v_cell, Vz.Q.v_disp, Vz.Q.lsO_, Vz.Q.v_cat, Vz.Q.v_call, Vz.Q.v_lcall, Vz.Q.v_app, Vz.Q.v_appK, Vz.Q.v_nil, Vz.Q.v_pass, Vz.Q.v_seq, Vz.Q.v_break, Vz.Q.v_cont, Vz.Q.v_expr, Vz.Q.v_ret, Vz.Q.v_retN, Vz.Q.v_sif, Vz.Q.v_set, Vz.Q.v_setLc, Vz.Q.v_setLf, Vz.Q.v_aug, Vz.Q.parO_, Vz.Q.v_par, Vz.Q.nxO_, Vz.Q.v_asg, Vz.Q.v_oname, Vz.Q.v_onnil, Vz.Q.v_oncons, Vz.Q.v_otup, Vz.Q.v_osub, Vz.Q.v_fz, Vz.Q.v_meth, Vz.Q.v_meth0, Vz.Q.someR_, Vz.Q.v_index, Vz.Q.v_isi, Vz.Q.v_neg, Vz.Q.v_rev, Vz.Q.v_range, Vz.Q.v_sl, Vz.Q.v_no, Vz.Q.v_yesI, Vz.Q.v_dictT, Vz.Q.v_iseq, Vz.Q.v_iargs, Vz.Q.v_ifr, Vz.Q.rd_dat, Vz.Q.rd_loc, Vz.Q.rdC_lst, Vz.Q.rdC_frz, Vz.Q.rdC_dT, Vz.Q.rdC_dK, Vz.Q.rd2_, Vz.Q.rds_nil, Vz.Q.rds_cons, Vz.Q.dats_nil, Vz.Q.dats_cons, Vz.Q.small_1, Vz.Q.small_2, Vz.Q.small_3, Vz.Q.small_0, Vz.Q.small_, Vz.Q.one_, Vz.Q.two_, Vz.Q.frd_dat, Vz.Q.frd_loc, Vz.Q.frdC_frz, Vz.Q.frds_nil, Vz.Q.frds_cons, Vz.Q.LstW_, Vz.Q.lstB_, Vz.Q.lstC_, Vz.Q.lstO_, Vz.Q.v_append, Vz.Q.v_insert, Vz.Q.v_extend, Vz.Q.v_popAt, Vz.Q.asInt_, Vz.Q.asLs_, Vz.Q.v_stB, Vz.Q.lim_app, Vz.Q.lim_le, Vz.Q.lim_lt, Vz.Q.addL_, Vz.Q.addD_ll, Vz.Q.addD_tt, Option.bind_some, Option.map_some, addD_ii, subI_ii, ltI_ii, leI_ii, gtI_ii, geI_ii, eqD_ii, isN_non, isN_int, isN_str, List.getElem?_cons_zero, List.getElem?_cons_succ, List.set_cons_zero, List.set_cons_succ, List.length_cons, List.length_nil, List.length_append, Nat.zero_add, Nat.add_zero, Nat.reduceAdd, Nat.reduceSub, Nat.reduceEqDiff, at_app0, at_appk, set_app0, set_appk, List.append_assoc, List.cons_append, List.nil_append, List.append_nil, List.map_cons, List.map_nil, List.replicate, Vz.Q.fn_dat, Vz.Q.fn_nx, Vz.Q.fn_exc, Vz.Q.fn_exn, Vz.Q.fn_loc, Vz.Q.retC_lst, Vz.Q.retC_frz, Vz.Q.retC_dT, Vz.Q.retC_dK, Vz.Q.bodyF_, Vz.Q.bodyO_, Vz.Q.cutR_nil, Vz.Q.cutR_cons, Vz.Q.cutW_dat, Vz.Q.cutW_none, Vz.Q.cutW_exn, Vz.Q.cutW_loc, Vz.Q.cutW_locN, wipeR, List.take_succ_cons, List.take_length, List.take_left, take_appk, List.take_zero, List.take_nil, Vz.Q.v_yes, Vz.Q.v_lcB, Vz.Q.lcO_, Vz.Q.v_cname, Vz.Q.v_ctup, Vz.Q.v_cnnil, Vz.Q.v_cncons, Vz.Q.bb_tf, Vz.Q.bb_ft, Vz.Q.bb_tt, Vz.Q.bb_ff, Vz.Q.bn_tf, Vz.Q.bn_ft, Vz.Q.bn_tt, Vz.Q.bn_ff, eqD_bb, neD_bb, Bool.not_true, Bool.not_false, Bool.and_true, Bool.true_and, Bool.and_self, decide_true, decide_false, eq_self, $hs,*])
local macro_rules
 | `(tactic| simp_arith! [$hs,*]) => `(tactic| simp -implicitDefEqProofs -dsimp (disch:=first | assumption | omega | (simp only [List.length_map, List.length_append, List.length_cons, List.length_nil, List.length_range, List.length_take, List.length_drop, List.length_replicate, List.length_reverse, List.length_zipIdx]; omega)) only [Vz.Q.ifB_t, Vz.Q.ifB_f, Vz.Q.bind_ok, Vz.Q.bind_exc, Vz.Q.then_ok, Vz.Q.then_exc, Vz.Q.andThen_nx, Vz.Q.andThen_rt, Vz.Q.andThen_exc, Vz.Q.andThen_bk, Vz.Q.andThen_ct, Vz.Q.lift_some, Vz.Q.ofo_some, Vz.Q.get_ok, Vz.Q.noX_ok, Vz.Q.ifO_t, Vz.Q.varO_, Vz.Q.v_var, Vz.Q.v_c, Vz.Q.v_bin, Vz.Q.v_b, Vz.Q.asB_, Vz.Q.v_and, Vz.Q.v_or, Vz.Q.v_not, Vz.Q.v_v, Vz.Q.v_andV, Vz.Q.v_orV, Vz.Q.v_notV, Vz.Q.v_if, Vz.Q.v_chain, Vz.Q.v_anil, Vz.Q.v_acons, Vz.Q.v_tup, Vz.Q.v_tupK, Vz.Q.v_frz, Vz.Q.v_cell, Vz.Q.v_disp, Vz.Q.lsO_, Vz.Q.v_cat, Vz.Q.v_call, Vz.Q.v_lcall, Vz.Q.v_app, Vz.Q.v_appK, Vz.Q.v_nil, Vz.Q.v_pass, Vz.Q.v_seq, Vz.Q.v_break, Vz.Q.v_cont, Vz.Q.v_expr, Vz.Q.v_ret, Vz.Q.v_retN, Vz.Q.v_sif, Vz.Q.v_set, Vz.Q.v_setLc, Vz.Q.v_setLf, Vz.Q.v_aug, Vz.Q.parO_, Vz.Q.v_par, Vz.Q.nxO_, Vz.Q.v_asg, Vz.Q.v_oname, Vz.Q.v_onnil, Vz.Q.v_oncons, Vz.Q.v_otup, Vz.Q.v_osub, Vz.Q.v_fz, Vz.Q.v_meth, Vz.Q.v_meth0, Vz.Q.someR_, Vz.Q.v_index, Vz.Q.v_isi, Vz.Q.v_neg, Vz.Q.v_rev, Vz.Q.v_range, Vz.Q.v_sl, Vz.Q.v_no, Vz.Q.v_yesI, Vz.Q.v_dictT, Vz.Q.v_iseq, Vz.Q.v_iargs, Vz.Q.v_ifr, Vz.Q.rd_dat, Vz.Q.rd_loc, Vz.Q.rdC_lst, Vz.Q.rdC_frz, Vz.Q.rdC_dT, Vz.Q.rdC_dK, Vz.Q.rd2_, Vz.Q.rds_nil, Vz.Q.rds_cons, Vz.Q.dats_nil, Vz.Q.dats_cons, Vz.Q.small_1, Vz.Q.small_2, Vz.Q.small_3, Vz.Q.small_0, Vz.Q.small_, Vz.Q.one_, Vz.Q.two_, Vz.Q.frd_dat, Vz.Q.frd_loc, Vz.Q.frdC_frz, Vz.Q.frds_nil, Vz.Q.frds_cons, Vz.Q.LstW_, Vz.Q.lstB_, Vz.Q.lstC_, Vz.Q.lstO_, Vz.Q.v_append, Vz.Q.v_insert, Vz.Q.v_extend, Vz.Q.v_popAt, Vz.Q.asInt_, Vz.Q.asLs_, Vz.Q.v_stB, Vz.Q.lim_app, Vz.Q.lim_le, Vz.Q.lim_lt, Vz.Q.addL_, Vz.Q.addD_ll, Vz.Q.addD_tt, Option.bind_some, Option.map_some, addD_ii, subI_ii, ltI_ii, leI_ii, gtI_ii, geI_ii, eqD_ii, isN_non, isN_int, isN_str, List.getElem?_cons_zero, List.getElem?_cons_succ, List.set_cons_zero, List.set_cons_succ, List.length_cons, List.length_nil, List.length_append, Nat.zero_add, Nat.add_zero, Nat.reduceAdd, Nat.reduceSub, Nat.reduceEqDiff, at_app0, at_appk, set_app0, set_appk, List.append_assoc, List.cons_append, List.nil_append, List.append_nil, List.map_cons, List.map_nil, List.replicate, Vz.Q.fn_dat, Vz.Q.fn_nx, Vz.Q.fn_exc, Vz.Q.fn_exn, Vz.Q.fn_loc, Vz.Q.retC_lst, Vz.Q.retC_frz, Vz.Q.retC_dT, Vz.Q.retC_dK, Vz.Q.bodyF_, Vz.Q.bodyO_, Vz.Q.cutR_nil, Vz.Q.cutR_cons, Vz.Q.cutW_dat, Vz.Q.cutW_none, Vz.Q.cutW_exn, Vz.Q.cutW_loc, Vz.Q.cutW_locN, wipeR, List.take_succ_cons, List.take_length, List.take_left, take_appk, List.take_zero, List.take_nil, Vz.Q.v_yes, Vz.Q.v_lcB, Vz.Q.lcO_, Vz.Q.v_cname, Vz.Q.v_ctup, Vz.Q.v_cnnil, Vz.Q.v_cncons, Vz.Q.bb_tf, Vz.Q.bb_ft, Vz.Q.bb_tt, Vz.Q.bb_ff, Vz.Q.bn_tf, Vz.Q.bn_ft, Vz.Q.bn_tt, Vz.Q.bn_ff, eqD_bb, neD_bb, Bool.not_true, Bool.not_false, Bool.and_true, Bool.true_and, Bool.and_self, decide_true, decide_false, eq_self, Vz.Q.v_count, Vz.Q.cntB_l, Vz.Q.v_lam, Vz.Q.v_cat, Vz.Q.v_cseq_t, Vz.Q.v_cseq_l, Vz.Q.v_bor, Vz.Q.borO_b, Vz.Q.borW_dat, Vz.Q.borW_none, Vz.Q.borW_loc, Vz.Q.borC_lst, Vz.Q.borC_frz, Vz.Q.v_izd, Vz.Q.par3O_, Vz.Q.v_par3, Vz.Q.v_try, Vz.Q.try_exc, Vz.Q.try_nx, Vz.Q.try_rt, Vz.Q.drop_nx, Vz.Q.drop_rt, Vz.Q.v_raise1, Vz.Q.r1O_, Vz.Q.v_raise0, Vz.Q.v_isNo, Vz.Q.v_isNoN, Vz.Q.isNo_non, Vz.Q.isNo_exn, Vz.Q.v_isX, Vz.Q.isXW_, Vz.Q.v_xf, Vz.Q.xfW_, Vz.Q.v_oseq_t, Vz.Q.v_oseq_l, Vz.Q.enumD_l, Vz.Q.enumD_t, Vz.Q.nums_map, Vz.Q.listD_l, Vz.Q.listD_t, Vz.Q.tupleD_l, Vz.Q.tupleD_t, Vz.Q.lenD_l, Vz.Q.lenD_t, Vz.Q.cutD_l, Vz.Q.cutD_n, Vz.Q.revD_l, Vz.Q.fz_dat, Vz.Q.fz_loc, Vz.Q.fzC_lst, Vz.Q.fzC_frz, Vz.Q.isNN_non, Vz.Q.isNN_int, Vz.Q.isNN_str, Vz.Q.inD_l, Vz.Q.inD_t, Vz.Q.sqB_l, Vz.Q.sqB_t, Bool.false_xor, Bool.true_xor, asI, Vz.Q.walk_dl, Vz.Q.walk_dt, List.length_map, List.map_append, $hs,*])
section
variable {S : Sto} {xs qs : List Int} {it : D}
def tieQ (xs qs : List Int) (v : Int) : Option Int:=tieV xs (fun p => qs.idxOf (key xs p)) (xs.idxOf v)
def stepsQ (xs qs : List Int) : List (Int × Option Int):=qs.map fun v => (v, tieQ xs qs v)
end
open Vz.Q Vz.G
section
variable {xs : List Int} {as : List Anc}
end
end Vz.H
namespace Vz.Q
open PySem PySem.Spec PyProof.Rows L2 Vz
variable {ρ : Rho} {S : Sto}
theorem v_setR {i : Nat} {g : Rho → Sto → R (List (List D))} : sSetR i g ρ S = thenT (fCellR g ρ S) ρ (fun w S1 => .nx (ρ.set i (some w)) S1) .mk:=rfl
theorem v_cellR {g : Rho → Sto → R (List (List D))} : fCellR g ρ S = bindT (g ρ S) (fun xss S1 => .ok (.loc S1.length 0) (S1 ++ [.ll xss])) .mk:=rfl
theorem v_ixR {fa fb : FE} : fIxR fa fb ρ S = bindT (fa ρ S) (fun x S1 => bindT (fb ρ S1) (fun y S2 => R.lift ((rd S2 y).bind fun d => ixR S2 x d) S2) .mk) .mk:=rfl
variable {xss : List (List D)} {i : Nat}
end Vz.Q
namespace Vz.H
open PySem PySem.Spec PyProof.Rows L2 Vz Vz.Q Vz.G
local macro_rules
 | `(tactic| simp_arith [$hs,*]) => `(tactic| simp -implicitDefEqProofs -dsimp (disch:=first | assumption | omega | (simp only [List.length_map, List.length_append, List.length_cons, List.length_nil, List.length_range, List.length_take, List.length_drop, List.length_replicate, List.length_reverse, List.length_zipIdx]; omega)) only [Vz.Q.ifB_t, Vz.Q.ifB_f, Vz.Q.bind_ok, Vz.Q.bind_exc, Vz.Q.then_ok, Vz.Q.then_exc, Vz.Q.andThen_nx, Vz.Q.andThen_rt, Vz.Q.andThen_exc, Vz.Q.andThen_bk, Vz.Q.andThen_ct, Vz.Q.lift_some, Vz.Q.ofo_some, Vz.Q.get_ok, Vz.Q.noX_ok, Vz.Q.ifO_t, Vz.Q.varO_, Vz.Q.v_var, Vz.Q.v_c, Vz.Q.v_bin, Vz.Q.v_b, Vz.Q.asB_, Vz.Q.v_and, Vz.Q.v_or, Vz.Q.v_not, Vz.Q.v_v, Vz.Q.v_andV, Vz.Q.v_orV, Vz.Q.v_notV, Vz.Q.v_if, Vz.Q.v_chain, Vz.Q.v_anil, Vz.Q.v_acons, Vz.Q.v_tup, Vz.Q.v_tupK, Vz.Q.v_frz, Vz.Q.v_cell, Vz.Q.v_disp, Vz.Q.lsO_, Vz.Q.v_cat, Vz.Q.v_call, Vz.Q.v_lcall, Vz.Q.v_app, Vz.Q.v_appK, Vz.Q.v_nil, Vz.Q.v_pass, Vz.Q.v_seq, Vz.Q.v_break, Vz.Q.v_cont, Vz.Q.v_expr, Vz.Q.v_ret, Vz.Q.v_retN, Vz.Q.v_sif, Vz.Q.v_set, Vz.Q.v_setLc, Vz.Q.v_setLf, Vz.Q.v_aug, Vz.Q.parO_, Vz.Q.v_par, Vz.Q.nxO_, Vz.Q.v_asg, Vz.Q.v_oname, Vz.Q.v_onnil, Vz.Q.v_oncons, Vz.Q.v_otup, Vz.Q.v_osub, Vz.Q.v_fz, Vz.Q.v_meth, Vz.Q.v_meth0, Vz.Q.someR_, Vz.Q.v_index, Vz.Q.v_isi, Vz.Q.v_neg, Vz.Q.v_rev, Vz.Q.v_range, Vz.Q.v_sl, Vz.Q.v_no, Vz.Q.v_yesI, Vz.Q.v_dictT, Vz.Q.v_iseq, Vz.Q.v_iargs, Vz.Q.v_ifr, Vz.Q.rd_dat, Vz.Q.rd_loc, Vz.Q.rdC_lst, Vz.Q.rdC_frz, Vz.Q.rdC_dT, Vz.Q.rdC_dK, Vz.Q.rd2_, Vz.Q.rds_nil, Vz.Q.rds_cons, Vz.Q.dats_nil, Vz.Q.dats_cons, Vz.Q.small_1, Vz.Q.small_2, Vz.Q.small_3, Vz.Q.small_0, Vz.Q.small_, Vz.Q.one_, Vz.Q.two_, Vz.Q.frd_dat, Vz.Q.frd_loc, Vz.Q.frdC_frz, Vz.Q.frds_nil, Vz.Q.frds_cons, Vz.Q.LstW_, Vz.Q.lstB_, Vz.Q.lstC_, Vz.Q.lstO_, Vz.Q.v_append, Vz.Q.v_insert, Vz.Q.v_extend, Vz.Q.v_popAt, Vz.Q.asInt_, Vz.Q.asLs_, Vz.Q.v_stB, Vz.Q.lim_app, Vz.Q.lim_le, Vz.Q.lim_lt, Vz.Q.addL_, Vz.Q.addD_ll, Vz.Q.addD_tt, Option.bind_some, Option.map_some, addD_ii, subI_ii, ltI_ii, leI_ii, gtI_ii, geI_ii, eqD_ii, isN_non, isN_int, isN_str, List.getElem?_cons_zero, List.getElem?_cons_succ, List.set_cons_zero, List.set_cons_succ, List.length_cons, List.length_nil, List.length_append, Nat.zero_add, Nat.add_zero, Nat.reduceAdd, Nat.reduceSub, Nat.reduceEqDiff, at_app0, at_appk, set_app0, set_appk, List.append_assoc, List.cons_append, List.nil_append, List.append_nil, List.map_cons, List.map_nil, List.replicate, Vz.Q.fn_dat, Vz.Q.fn_nx, Vz.Q.fn_exc, Vz.Q.fn_exn, Vz.Q.fn_loc, Vz.Q.retC_lst, Vz.Q.retC_frz, Vz.Q.retC_dT, Vz.Q.retC_dK, Vz.Q.bodyF_, Vz.Q.bodyO_, Vz.Q.cutR_nil, Vz.Q.cutR_cons, Vz.Q.cutW_dat, Vz.Q.cutW_none, Vz.Q.cutW_exn, Vz.Q.cutW_loc, Vz.Q.cutW_locN, wipeR, List.take_succ_cons, List.take_length, List.take_left, take_appk, List.take_zero, List.take_nil, Vz.Q.v_yes, Vz.Q.v_lcB, Vz.Q.lcO_, Vz.Q.v_cname, Vz.Q.v_ctup, Vz.Q.v_cnnil, Vz.Q.v_cncons, Vz.Q.bb_tf, Vz.Q.bb_ft, Vz.Q.bb_tt, Vz.Q.bb_ff, Vz.Q.bn_tf, Vz.Q.bn_ft, Vz.Q.bn_tt, Vz.Q.bn_ff, eqD_bb, neD_bb, Bool.not_true, Bool.not_false, Bool.and_true, Bool.true_and, Bool.and_self, decide_true, decide_false, eq_self, $hs,*])
local macro_rules
 | `(tactic| simp_arith! [$hs,*]) => `(tactic| simp -implicitDefEqProofs -dsimp (disch:=first | assumption | omega | (simp only [List.length_map, List.length_append, List.length_cons, List.length_nil, List.length_range, List.length_take, List.length_drop, List.length_replicate, List.length_reverse, List.length_zipIdx]; omega)) only [Vz.Q.ifB_t, Vz.Q.ifB_f, Vz.Q.bind_ok, Vz.Q.bind_exc, Vz.Q.then_ok, Vz.Q.then_exc, Vz.Q.andThen_nx, Vz.Q.andThen_rt, Vz.Q.andThen_exc, Vz.Q.andThen_bk, Vz.Q.andThen_ct, Vz.Q.lift_some, Vz.Q.ofo_some, Vz.Q.get_ok, Vz.Q.noX_ok, Vz.Q.ifO_t, Vz.Q.varO_, Vz.Q.v_var, Vz.Q.v_c, Vz.Q.v_bin, Vz.Q.v_b, Vz.Q.asB_, Vz.Q.v_and, Vz.Q.v_or, Vz.Q.v_not, Vz.Q.v_v, Vz.Q.v_andV, Vz.Q.v_orV, Vz.Q.v_notV, Vz.Q.v_if, Vz.Q.v_chain, Vz.Q.v_anil, Vz.Q.v_acons, Vz.Q.v_tup, Vz.Q.v_tupK, Vz.Q.v_frz, Vz.Q.v_cell, Vz.Q.v_disp, Vz.Q.lsO_, Vz.Q.v_cat, Vz.Q.v_call, Vz.Q.v_lcall, Vz.Q.v_app, Vz.Q.v_appK, Vz.Q.v_nil, Vz.Q.v_pass, Vz.Q.v_seq, Vz.Q.v_break, Vz.Q.v_cont, Vz.Q.v_expr, Vz.Q.v_ret, Vz.Q.v_retN, Vz.Q.v_sif, Vz.Q.v_set, Vz.Q.v_setLc, Vz.Q.v_setLf, Vz.Q.v_aug, Vz.Q.parO_, Vz.Q.v_par, Vz.Q.nxO_, Vz.Q.v_asg, Vz.Q.v_oname, Vz.Q.v_onnil, Vz.Q.v_oncons, Vz.Q.v_otup, Vz.Q.v_osub, Vz.Q.v_fz, Vz.Q.v_meth, Vz.Q.v_meth0, Vz.Q.someR_, Vz.Q.v_index, Vz.Q.v_isi, Vz.Q.v_neg, Vz.Q.v_rev, Vz.Q.v_range, Vz.Q.v_sl, Vz.Q.v_no, Vz.Q.v_yesI, Vz.Q.v_dictT, Vz.Q.v_iseq, Vz.Q.v_iargs, Vz.Q.v_ifr, Vz.Q.rd_dat, Vz.Q.rd_loc, Vz.Q.rdC_lst, Vz.Q.rdC_frz, Vz.Q.rdC_dT, Vz.Q.rdC_dK, Vz.Q.rd2_, Vz.Q.rds_nil, Vz.Q.rds_cons, Vz.Q.dats_nil, Vz.Q.dats_cons, Vz.Q.small_1, Vz.Q.small_2, Vz.Q.small_3, Vz.Q.small_0, Vz.Q.small_, Vz.Q.one_, Vz.Q.two_, Vz.Q.frd_dat, Vz.Q.frd_loc, Vz.Q.frdC_frz, Vz.Q.frds_nil, Vz.Q.frds_cons, Vz.Q.LstW_, Vz.Q.lstB_, Vz.Q.lstC_, Vz.Q.lstO_, Vz.Q.v_append, Vz.Q.v_insert, Vz.Q.v_extend, Vz.Q.v_popAt, Vz.Q.asInt_, Vz.Q.asLs_, Vz.Q.v_stB, Vz.Q.lim_app, Vz.Q.lim_le, Vz.Q.lim_lt, Vz.Q.addL_, Vz.Q.addD_ll, Vz.Q.addD_tt, Option.bind_some, Option.map_some, addD_ii, subI_ii, ltI_ii, leI_ii, gtI_ii, geI_ii, eqD_ii, isN_non, isN_int, isN_str, List.getElem?_cons_zero, List.getElem?_cons_succ, List.set_cons_zero, List.set_cons_succ, List.length_cons, List.length_nil, List.length_append, Nat.zero_add, Nat.add_zero, Nat.reduceAdd, Nat.reduceSub, Nat.reduceEqDiff, at_app0, at_appk, set_app0, set_appk, List.append_assoc, List.cons_append, List.nil_append, List.append_nil, List.map_cons, List.map_nil, List.replicate, Vz.Q.fn_dat, Vz.Q.fn_nx, Vz.Q.fn_exc, Vz.Q.fn_exn, Vz.Q.fn_loc, Vz.Q.retC_lst, Vz.Q.retC_frz, Vz.Q.retC_dT, Vz.Q.retC_dK, Vz.Q.bodyF_, Vz.Q.bodyO_, Vz.Q.cutR_nil, Vz.Q.cutR_cons, Vz.Q.cutW_dat, Vz.Q.cutW_none, Vz.Q.cutW_exn, Vz.Q.cutW_loc, Vz.Q.cutW_locN, wipeR, List.take_succ_cons, List.take_length, List.take_left, take_appk, List.take_zero, List.take_nil, Vz.Q.v_yes, Vz.Q.v_lcB, Vz.Q.lcO_, Vz.Q.v_cname, Vz.Q.v_ctup, Vz.Q.v_cnnil, Vz.Q.v_cncons, Vz.Q.bb_tf, Vz.Q.bb_ft, Vz.Q.bb_tt, Vz.Q.bb_ff, Vz.Q.bn_tf, Vz.Q.bn_ft, Vz.Q.bn_tt, Vz.Q.bn_ff, eqD_bb, neD_bb, Bool.not_true, Bool.not_false, Bool.and_true, Bool.true_and, Bool.and_self, decide_true, decide_false, eq_self, Vz.Q.v_count, Vz.Q.cntB_l, Vz.Q.v_lam, Vz.Q.v_cat, Vz.Q.v_cseq_t, Vz.Q.v_cseq_l, Vz.Q.v_bor, Vz.Q.borO_b, Vz.Q.borW_dat, Vz.Q.borW_none, Vz.Q.borW_loc, Vz.Q.borC_lst, Vz.Q.borC_frz, Vz.Q.v_setR, Vz.Q.v_cellR, Vz.Q.v_ixR, Vz.Q.v_izd, Vz.Q.par3O_, Vz.Q.v_par3, Vz.Q.v_try, Vz.Q.try_exc, Vz.Q.try_nx, Vz.Q.try_rt, Vz.Q.drop_nx, Vz.Q.drop_rt, Vz.Q.v_raise1, Vz.Q.r1O_, Vz.Q.v_raise0, Vz.Q.v_isNo, Vz.Q.v_isNoN, Vz.Q.isNo_non, Vz.Q.isNo_exn, Vz.Q.v_isX, Vz.Q.isXW_, Vz.Q.v_xf, Vz.Q.xfW_, Vz.Q.v_oseq_t, Vz.Q.v_oseq_l, Vz.Q.enumD_l, Vz.Q.enumD_t, Vz.Q.nums_map, Vz.Q.listD_l, Vz.Q.listD_t, Vz.Q.tupleD_l, Vz.Q.tupleD_t, Vz.Q.lenD_l, Vz.Q.lenD_t, Vz.Q.cutD_l, Vz.Q.cutD_n, Vz.Q.revD_l, Vz.Q.fz_dat, Vz.Q.fz_loc, Vz.Q.fzC_lst, Vz.Q.fzC_frz, Vz.Q.isNN_non, Vz.Q.isNN_int, Vz.Q.isNN_str, Vz.Q.inD_l, Vz.Q.inD_t, Vz.Q.sqB_l, Vz.Q.sqB_t, Bool.false_xor, Bool.true_xor, asI, Vz.Q.walk_dl, Vz.Q.walk_dt, List.length_map, List.map_append, $hs,*])
section
variable {S : Sto} {xs : List Int} {as : List Anc} {it t : D} {ms : List Mark}
end
open PySem PySem.Spec PyProof.Rows L2 Vz Vz.Q Vz.G
section
variable {S : Sto} {xs : List Int} {as : List Anc} {it t : D} {ms : List Mark}
end
open Vz.Q Vz.G
section
variable {ms : List Mark} {xs : List Int} {as : List Anc}
end
open Vz.Q Vz.G
section
variable {ms ms' : List Mark}
end
section
variable {xs : List Int} {as : List Anc}
end
open Vz.Q Vz.G
section
variable {xs : List Int} {as : List Anc}
end
open Vz.Q Vz.G
section
variable {ms : List Mark}
def dB (ms : List Mark) (v r : Nat) : Prop:=ms.getD r none = some (v : Int) ∨ ∃ a, ms.getD v none = some a ∧ a < (r : Int) ∧ r < v
theorem getD_lt {p : Nat} {a : Int} (h : ms.getD p none = some a) : p < ms.length:=by
 rcases Nat.lt_or_ge p ms.length with c | c
 ·exact c
 ·rw [List.getD_eq_getElem?_getD, List.getElem?_eq_none c] at h
  cases h
inductive Bf (ms : List Mark) : Nat → Nat → Prop
 | one {v r} : dB ms v r → Bf ms v r
 | snoc {v r q} : Bf ms v r → dB ms r q → Bf ms v q
theorem Bf.cons {v r q : Nat} (h : dB ms v r) (h2 : Bf ms r q) : Bf ms v q:=by
 induction h2 with
 | one h3 => exact .snoc (.one h) h3
 | snoc _ h3 ih => exact .snoc ih h3
theorem Bf.trans {v r q : Nat} (h : Bf ms v r) (h2 : Bf ms r q) : Bf ms v q:=by
 induction h2 with
 | one h3 => exact .snoc h h3
 | snoc _ h3 ih => exact .snoc ih h3
structure Nice (ms : List Mark) : Prop where
 low : ∀ (p : Nat) (k : Int), ms.getD p none = some k → -1 ≤ k
 wr : ∀ (p : Nat) (k : Int), ms.getD p none = some k → k < p
 cr : ∀ (x y : Nat) (a b : Int), ms.getD x none = some a → ms.getD y none = some b → y < x → a < y → a ≤ b
theorem Nice.lt {v r : Nat} (h : Nice ms) (hd : dB ms v r) : v < ms.length ∧ r < ms.length ∧ v ≠ r:=by
 rcases hd with hd | ⟨a, hd, _, h2⟩
 ·have:=h.wr _ _ hd
  have:=getD_lt hd
  omega
 ·have:=getD_lt hd
  omega
theorem Nice.bf {v r : Nat} (h : Nice ms) (hd : Bf ms v r) : v < ms.length ∧ r < ms.length:=by
 induction hd with
 | one hd => exact ⟨(h.lt hd).1, (h.lt hd).2.1⟩
 | snoc _ h3 ih => exact ⟨ih.1, (h.lt h3).2.1⟩
structure Gp (ms : List Mark) (f l : Nat) : Prop where
 hi : f + l ≤ ms.length
 inl : ∀ (p : Nat) (k : Int), f ≤ p → p < f + l → ms.getD p none = some k → (f : Int) - 1 ≤ k
 out : ∀ (p : Nat) (k : Int), f + l ≤ p → ms.getD p none = some k → k < f ∨ (f : Int) + l ≤ k
def Rt (ms : List Mark) (f l p : Nat) : Prop:=f ≤ p ∧ p < f + l ∧ ∀ v, f ≤ v → v < f + l → ¬ dB ms v p
theorem Gp.whole (h : Nice ms) : Gp ms 0 ms.length:=⟨by omega, fun p k _ _ hk => by have:=h.low _ _ hk; omega, fun p k hp hk => by have:=getD_lt hk; omega⟩
theorem Rt.left {f l p : Nat} (h : Nice ms) (g : Gp ms f l) (r : Rt ms f l p) : Gp ms f (p - f):=by
 obtain ⟨r1, r2, r3⟩:=r
 have:=g.hi
 refine ⟨by omega, fun q k h1 h2 hk => g.inl q k h1 (by omega) hk, fun q k hq hk => ?_⟩
 rcases Nat.lt_or_ge q (f + l) with c | c
 ·by_cases hb : f ≤ k ∧ k < p
  ·obtain ⟨v, rfl⟩:=Int.eq_ofNat_of_zero_le (show 0 ≤ k by omega)
   rcases Nat.lt_or_ge p q with d | d
   ·exact absurd (.inr ⟨_, hk, by omega, d⟩) (r3 q (by omega) c)
   ·have e : q = p:=by omega
    subst e
    exact absurd (.inl hk) (r3 v (by omega) (by omega))
  ·omega
 ·rcases g.out q k c hk with e | e <;> omega
theorem Rt.right {f l p : Nat} (h : Nice ms) (g : Gp ms f l) (r : Rt ms f l p) : Gp ms (p + 1) (f + l - (p + 1)):=by
 obtain ⟨r1, r2, r3⟩:=r
 have:=g.hi
 refine ⟨by omega, fun q k h1 h2 hk => ?_, fun q k hq hk => ?_⟩
 ·rcases Int.lt_or_le k p with c | c
  ·exact absurd (.inr ⟨_, hk, c, by omega⟩) (r3 q (by omega) (by omega))
  ·omega
 ·rcases g.out q k (by omega) hk with e | e <;> omega
theorem Rt.can {f l p : Nat} (h : Nice ms) (g : Gp ms f l) (r : Rt ms f l p) : ∀ k, ms.getD p none = some k → k = (f : Int) - 1:=fun k hk => by
 obtain ⟨r1, r2, r3⟩:=r
 have h1:=g.inl p k r1 r2 hk
 have h2:=h.wr _ _ hk
 by_cases c : k = (f : Int) - 1
 ·exact c
 ·obtain ⟨v, rfl⟩:=Int.eq_ofNat_of_zero_le (show 0 ≤ k by omega)
  exact absurd (.inl hk) (r3 v (by omega) (by omega))
theorem Gp.stay {f l p r : Nat} (h : Nice ms) (g : Gp ms f l) (h1 : f ≤ p) (h2 : p < f + l) (hd : dB ms p r) : f ≤ r ∧ r < f + l:=by
 rcases hd with hd | ⟨a, hd, h3, h4⟩
 ·have:=h.wr _ _ hd
  rcases Nat.lt_or_ge r (f + l) with c | c
  ·omega
  ·rcases g.out r _ c hd with e | e <;> omega
 ·have:=g.inl p a h1 h2 hd
  omega
theorem Gp.bf {f l p r : Nat} (h : Nice ms) (g : Gp ms f l) (h1 : f ≤ p) (h2 : p < f + l) (hd : Bf ms p r) : f ≤ r ∧ r < f + l:=by
 induction hd with
 | one hd => exact g.stay h h1 h2 hd
 | snoc _ h3 ih => exact g.stay h ih.1 ih.2 h3
theorem root_ex {f l : Nat} {ρ : Nat → Nat} (hρ : ∀ v r, dB ms v r → ρ v < ρ r) : ∀ (n q : Nat), ρ q ≤ n → f ≤ q → q < f + l → ∃ p, Rt ms f l p ∧ (p = q ∨ Bf ms p q)
 | n, q, hn, h1, h2 => by
  by_cases c : ∃ v, f ≤ v ∧ v < f + l ∧ dB ms v q
  ·obtain ⟨v, h3, h4, h5⟩:=c
   have:=hρ _ _ h5
   cases n with
   | zero => omega
   | succ n =>
    obtain ⟨p, hp, e⟩:=root_ex (f:=f) (l:=l) hρ n v (by omega) h3 h4
    refine ⟨p, hp, .inr ?_⟩
    rcases e with e | e
    ·exact .one (e ▸ h5)
    ·exact .snoc e h5
  ·exact ⟨q, ⟨h1, h2, fun v h3 h4 h5 => c ⟨v, h3, h4, h5⟩⟩, .inl rfl⟩
theorem root_lt {f l p1 p2 q : Nat} (h : Nice ms) (g : Gp ms f l) (r1 : Rt ms f l p1) (r2 : Rt ms f l p2) (hlt : p1 < p2) (e1 : p1 = q ∨ Bf ms p1 q) (e2 : p2 = q ∨ Bf ms p2 q) : False:=by
 have g1:=r2.left h g
 have hq1 : q < p2:=by
  rcases e1 with e | e
  ·omega
  ·have:=g1.bf h r1.1 (by have:=r2.1; omega) e
   omega
 have hn : ms.getD p2 none = none:=by
  cases c : ms.getD p2 none with
  | none => rfl
  | some k =>
   have:=r2.can h g k c
   have:=r1.1
   exact absurd (.inr ⟨_, c, by omega, hlt⟩) (r1.2.2 p2 r2.1 r2.2.1)
 have hq2 : p2 ≤ q:=by
  rcases e2 with e | e
  ·omega
  ·have g2:=r2.right h g
   have key : ∀ r, Bf ms p2 r → p2 + 1 ≤ r ∧ r < p2 + 1 + (f + l - (p2 + 1)):=fun r hr => by
    induction hr with
    | one hd =>
     have hs:=g.stay h r2.1 r2.2.1 hd
     rcases hd with hd | ⟨a, hd, _⟩
     ·have:=h.wr _ _ hd
      omega
     ·rw [hn] at hd
      cases hd
    | snoc _ h3 ih => exact g2.stay h ih.1 ih.2 h3
   have:=(key q e).1
   omega
 omega
theorem root_uq {f l p1 p2 q : Nat} (h : Nice ms) (g : Gp ms f l) (r1 : Rt ms f l p1) (r2 : Rt ms f l p2) (e1 : p1 = q ∨ Bf ms p1 q) (e2 : p2 = q ∨ Bf ms p2 q) : p1 = p2:=by
 rcases Nat.lt_trichotomy p1 p2 with c | c | c
 ·exact (root_lt h g r1 r2 c e1 e2).elim
 ·exact c
 ·exact (root_lt h g r2 r1 c e2 e1).elim
open Classical in
noncomputable def hk (ms : List Mark) (p : Nat) : Nat:=(List.range ms.length).countP fun q => decide (p = q ∨ Bf ms p q)
end
open Vz.Q Vz.G
section
variable {ms : List Mark} {xs : List Int} {as : List Anc}
end
open PySem PySem.Spec PyProof.Rows L2 Vz Vz.Q Vz.G
section
variable {S : Sto} {xs : List Int} {as : List Anc} {it t : D} {ms : List Mark} {xss : List (List D)} {i : Nat} {F : List D}
def Bk (ms : List Mark) : Nat → Nat → Nat → Prop
 | 0, v, r => dB ms v r
 | k + 1, v, r => ∃ u, dB ms v u ∧ Bk ms k u r
theorem Bk.bf : ∀ {k v r : Nat}, Bk ms k v r → Bf ms v r
 | 0, _, _, h => .one h
 | k + 1, _, _, ⟨u, h1, h2⟩ => .cons h1 h2.bf
theorem Bk.snoc : ∀ {k v r q : Nat}, Bk ms k v r → dB ms r q → Bk ms (k + 1) v q
 | 0, _, r, _, h, hd => ⟨r, h, hd⟩
 | k + 1, _, _, _, ⟨u, h1, h2⟩, hd => ⟨u, h1, h2.snoc hd⟩
end
section
variable {S : Sto} {xs : List Int} {as : List Anc} {ms : List Mark}
end
open PySem PySem.Spec PyProof.Rows L2 Vz Vz.Q Vz.G
section
variable {S : Sto} {xs : List Int} {as : List Anc} {it t bg : D} {ms : List Mark}
end
open PySem PySem.Spec PyProof.Rows L2 Vz Vz.Q Vz.G
local macro_rules
 | `(tactic| simp_arith! [$hs,*]) => `(tactic| simp -implicitDefEqProofs -dsimp (disch:=first | assumption | omega | (simp only [List.length_map, List.length_append, List.length_cons, List.length_nil, List.length_range, List.length_take, List.length_drop, List.length_replicate, List.length_reverse, List.length_zipIdx]; omega)) only [Vz.Q.ifB_t, Vz.Q.ifB_f, Vz.Q.bind_ok, Vz.Q.bind_exc, Vz.Q.then_ok, Vz.Q.then_exc, Vz.Q.andThen_nx, Vz.Q.andThen_rt, Vz.Q.andThen_exc, Vz.Q.andThen_bk, Vz.Q.andThen_ct, Vz.Q.lift_some, Vz.Q.ofo_some, Vz.Q.get_ok, Vz.Q.noX_ok, Vz.Q.ifO_t, Vz.Q.varO_, Vz.Q.v_var, Vz.Q.v_c, Vz.Q.v_bin, Vz.Q.v_b, Vz.Q.asB_, Vz.Q.v_and, Vz.Q.v_or, Vz.Q.v_not, Vz.Q.v_v, Vz.Q.v_andV, Vz.Q.v_orV, Vz.Q.v_notV, Vz.Q.v_if, Vz.Q.v_chain, Vz.Q.v_anil, Vz.Q.v_acons, Vz.Q.v_tup, Vz.Q.v_tupK, Vz.Q.v_frz, Vz.Q.v_cell, Vz.Q.v_disp, Vz.Q.lsO_, Vz.Q.v_cat, Vz.Q.v_call, Vz.Q.v_lcall, Vz.Q.v_app, Vz.Q.v_appK, Vz.Q.v_nil, Vz.Q.v_pass, Vz.Q.v_seq, Vz.Q.v_break, Vz.Q.v_cont, Vz.Q.v_expr, Vz.Q.v_ret, Vz.Q.v_retN, Vz.Q.v_sif, Vz.Q.v_set, Vz.Q.v_setLc, Vz.Q.v_setLf, Vz.Q.v_aug, Vz.Q.parO_, Vz.Q.v_par, Vz.Q.nxO_, Vz.Q.v_asg, Vz.Q.v_oname, Vz.Q.v_onnil, Vz.Q.v_oncons, Vz.Q.v_otup, Vz.Q.v_osub, Vz.Q.v_fz, Vz.Q.v_meth, Vz.Q.v_meth0, Vz.Q.someR_, Vz.Q.v_index, Vz.Q.v_isi, Vz.Q.v_neg, Vz.Q.v_rev, Vz.Q.v_range, Vz.Q.v_sl, Vz.Q.v_no, Vz.Q.v_yesI, Vz.Q.v_dictT, Vz.Q.v_iseq, Vz.Q.v_iargs, Vz.Q.v_ifr, Vz.Q.rd_dat, Vz.Q.rd_loc, Vz.Q.rdC_lst, Vz.Q.rdC_frz, Vz.Q.rdC_dT, Vz.Q.rdC_dK, Vz.Q.rd2_, Vz.Q.rds_nil, Vz.Q.rds_cons, Vz.Q.dats_nil, Vz.Q.dats_cons, Vz.Q.small_1, Vz.Q.small_2, Vz.Q.small_3, Vz.Q.small_0, Vz.Q.small_, Vz.Q.one_, Vz.Q.two_, Vz.Q.frd_dat, Vz.Q.frd_loc, Vz.Q.frdC_frz, Vz.Q.frds_nil, Vz.Q.frds_cons, Vz.Q.LstW_, Vz.Q.lstB_, Vz.Q.lstC_, Vz.Q.lstO_, Vz.Q.v_append, Vz.Q.v_insert, Vz.Q.v_extend, Vz.Q.v_popAt, Vz.Q.asInt_, Vz.Q.asLs_, Vz.Q.v_stB, Vz.Q.lim_app, Vz.Q.lim_le, Vz.Q.lim_lt, Vz.Q.addL_, Vz.Q.addD_ll, Vz.Q.addD_tt, Option.bind_some, Option.map_some, addD_ii, subI_ii, ltI_ii, leI_ii, gtI_ii, geI_ii, eqD_ii, isN_non, isN_int, isN_str, List.getElem?_cons_zero, List.getElem?_cons_succ, List.set_cons_zero, List.set_cons_succ, List.length_cons, List.length_nil, List.length_append, Nat.zero_add, Nat.add_zero, Nat.reduceAdd, Nat.reduceSub, Nat.reduceEqDiff, at_app0, at_appk, set_app0, set_appk, List.append_assoc, List.cons_append, List.nil_append, List.append_nil, List.map_cons, List.map_nil, List.replicate, Vz.Q.fn_dat, Vz.Q.fn_nx, Vz.Q.fn_exc, Vz.Q.fn_exn, Vz.Q.fn_loc, Vz.Q.retC_lst, Vz.Q.retC_frz, Vz.Q.retC_dT, Vz.Q.retC_dK, Vz.Q.bodyF_, Vz.Q.bodyO_, Vz.Q.cutR_nil, Vz.Q.cutR_cons, Vz.Q.cutW_dat, Vz.Q.cutW_none, Vz.Q.cutW_exn, Vz.Q.cutW_loc, Vz.Q.cutW_locN, wipeR, List.take_succ_cons, List.take_length, List.take_left, take_appk, List.take_zero, List.take_nil, Vz.Q.v_yes, Vz.Q.v_lcB, Vz.Q.lcO_, Vz.Q.v_cname, Vz.Q.v_ctup, Vz.Q.v_cnnil, Vz.Q.v_cncons, Vz.Q.bb_tf, Vz.Q.bb_ft, Vz.Q.bb_tt, Vz.Q.bb_ff, Vz.Q.bn_tf, Vz.Q.bn_ft, Vz.Q.bn_tt, Vz.Q.bn_ff, eqD_bb, neD_bb, Bool.not_true, Bool.not_false, Bool.and_true, Bool.true_and, Bool.and_self, decide_true, decide_false, eq_self, Vz.Q.v_setR, Vz.Q.v_cellR, Vz.Q.v_ixR, Vz.Q.v_izd, Vz.Q.par3O_, Vz.Q.v_par3, Vz.Q.v_try, Vz.Q.try_exc, Vz.Q.try_nx, Vz.Q.try_rt, Vz.Q.drop_nx, Vz.Q.drop_rt, Vz.Q.v_raise1, Vz.Q.r1O_, Vz.Q.v_raise0, Vz.Q.v_isNo, Vz.Q.v_isNoN, Vz.Q.isNo_non, Vz.Q.isNo_exn, Vz.Q.v_isX, Vz.Q.isXW_, Vz.Q.v_xf, Vz.Q.xfW_, Vz.Q.v_oseq_t, Vz.Q.v_oseq_l, Vz.Q.enumD_l, Vz.Q.enumD_t, Vz.Q.nums_map, Vz.Q.listD_l, Vz.Q.listD_t, Vz.Q.tupleD_l, Vz.Q.tupleD_t, Vz.Q.lenD_l, Vz.Q.lenD_t, Vz.Q.cutD_l, Vz.Q.cutD_n, Vz.Q.revD_l, Vz.Q.fz_dat, Vz.Q.fz_loc, Vz.Q.fzC_lst, Vz.Q.fzC_frz, Vz.Q.isNN_non, Vz.Q.isNN_int, Vz.Q.isNN_str, Vz.Q.inD_l, Vz.Q.inD_t, Vz.Q.sqB_l, Vz.Q.sqB_t, Bool.false_xor, Bool.true_xor, asI, Vz.Q.walk_dl, Vz.Q.walk_dt, List.length_map, List.map_append, $hs,*])
section
variable {S : Sto} {xs : List Int} {as : List Anc} {it t : D} {ms : List Mark}
end
open PySem PySem.Spec PyProof.Rows L2 Vz Vz.Q Vz.G
section
variable {ms : List Mark}
theorem bf_last {q p : Nat} (h : Bf ms q p) : ∃ v, dB ms v p ∧ (q = v ∨ Bf ms q v):=by
 cases h with
 | one h => exact ⟨q, h, .inl rfl⟩
 | snoc h1 h2 => exact ⟨_, h2, .inr h1⟩
theorem chain_gap {ρ : Nat → Nat} (hρ : ∀ v r, dB ms v r → ρ v < ρ r) (h : Nice ms) : ∀ (n l f : Nat), l ≤ n → Gp ms f l → ∀ p q q', f ≤ p → p < f + l → f ≤ q → q < f + l → f ≤ q' → q' < f + l → Bf ms q p → Bf ms q' p → q = q' ∨ Bf ms q q' ∨ Bf ms q' q
 | 0, l, f, hl, g, p, _, _, h1, h2, _, _, _, _, _, _ => by omega
 | n + 1, l, f, hl, g, p, q, q', h1, h2, h3, h4, h5, h6, b1, b2 => by
  obtain ⟨r, hr, e⟩:=root_ex (f:=f) (l:=l) hρ (ρ p) p (Nat.le_refl _) h1 h2
  have hrp : Bf ms r p:=by
   rcases e with e | e
   ·subst e
    obtain ⟨v, hv, e⟩:=bf_last b1
    have hvg : f ≤ v ∧ v < f + l:=by
     rcases e with e | e
     ·rw [← e]; exact ⟨h3, h4⟩
     ·exact g.bf h h3 h4 e
    exact absurd hv (hr.2.2 v hvg.1 hvg.2)
   ·exact e
  have root : ∀ x, f ≤ x → x < f + l → Bf ms x p → r = x ∨ Bf ms r x:=fun x x1 x2 bx => by
   obtain ⟨r', hr', e'⟩:=root_ex (f:=f) (l:=l) hρ (ρ x) x (Nat.le_refl _) x1 x2
   have : r' = r:=root_uq h g hr' hr (q:=p) (.inr (by
    rcases e' with e' | e'
    ·rw [e']; exact bx
    ·exact e'.trans bx)) (.inr hrp)
   rw [← this]
   exact e'
  by_cases c1 : q = r
  ·rcases root q' h5 h6 b2 with e | e
   ·exact .inl (by rw [c1, e])
   ·exact .inr (.inl (by rw [c1]; exact e))
  by_cases c2 : q' = r
  ·rcases root q h3 h4 b1 with e | e
   ·exact absurd e.symm c1
   ·exact .inr (.inr (by rw [c2]; exact e))
  have gl:=hr.left h g
  have gr:=hr.right h g
  have r1:=hr.1
  have r2:=hr.2.1
  have side : ∀ x, f ≤ x → x < f + l → x ≠ r → Bf ms x p → (x < r ↔ p < r) ∧ p ≠ r:=fun x x1 x2 x3 bx => by
   rcases Nat.lt_or_ge x r with c | c
   ·have:=gl.bf h x1 (by omega) bx
    omega
   ·have:=gr.bf h (by omega) (by omega) bx
    omega
  obtain ⟨s1, s3⟩:=side q h3 h4 c1 b1
  obtain ⟨s2, _⟩:=side q' h5 h6 c2 b2
  rcases Nat.lt_or_ge p r with c | c
  ·have:=s1.mpr c
   have:=s2.mpr c
   exact chain_gap hρ h n (r - f) f (by omega) gl p q q' h1 (by omega) h3 (by omega) h5 (by omega) b1 b2
  ·have : ¬ q < r:=fun z => by have:=s1.mp z; omega
   have : ¬ q' < r:=fun z => by have:=s2.mp z; omega
   exact chain_gap hρ h n (f + l - (r + 1)) (r + 1) (by omega) gr p q q' (by omega) (by omega) (by omega) (by omega) (by omega) (by omega) b1 b2
theorem chain {ρ : Nat → Nat} (hρ : ∀ v r, dB ms v r → ρ v < ρ r) (h : Nice ms) {p q q' : Nat} (b1 : Bf ms q p) (b2 : Bf ms q' p) : q = q' ∨ Bf ms q q' ∨ Bf ms q' q:=by
 have h1:=h.bf b1
 have h2:=h.bf b2
 exact chain_gap hρ h ms.length ms.length 0 (Nat.le_refl _) (Gp.whole h) p q q' (by omega) (by omega) (by omega) (by omega) (by omega) (by omega) b1 b2
end
section
variable {S : Sto} {xs : List Int} {as : List Anc} {it t : D}
end
open PySem PySem.Spec PyProof.Rows L2 Vz Vz.Q Vz.G
section
variable {S : Sto} {xs : List Int} {as : List Anc}
end
end Vz.H
namespace Vz.T
open Vz Vz.G Vz.H
def mixIn (a : Nat) (A : List Nat) (rec : List Nat → List (List Nat)) : List Nat → List (List Nat)
 | [] => [a :: A]
 | b :: B => (rec (b :: B)).map (a :: ·) ++ (mixIn a A rec B).map (b :: ·)
def mix : List Nat → List Nat → List (List Nat)
 | [] => fun B => [B]
 | a :: A => mixIn a A (mix A)
def bm (a i b c : Nat) : Nat:=bin (i + c) c * bin (a - 1 - i + (b - c)) (b - c)
end Vz.T
namespace Vz.T
open Vz Vz.G Vz.H
variable {ms : List Mark}
def lobF (f : Nat) (ps : List Nat) (p : Nat) : Nat:=max f (lobP ps p)
def fitG (ms : List Mark) (f : Nat) (ps : List Nat) (p : Nat) : Bool:=canB (ms.getD p none) (lobF f ps p : Nat)
def agrG (ms : List Mark) (f : Nat) : List Nat → List Nat → Bool
 | _, [] => true
 | ps, p :: τ => fitG ms f ps p && agrG ms f (ps ++ [p]) τ
structure IsO (ms : List Mark) (l f : Nat) (L : List (List Nat)) : Prop where
 nd : L.Nodup
 mem : ∀ σ, σ ∈ L ↔ σ.Perm (List.range' f l) ∧ agrG ms f [] σ = true
def og (ms : List Mark) : Nat → Nat → Nat → List (List Nat)
 | _, 0, _ => [[]]
 | 0, _ + 1, _ => []
 | n + 1, l + 1, f => ((List.range (l + 1)).filter fun u => canB (ms.getD (f + u) none) (f : Nat)).flatMap fun u => (og ms n u f).flatMap fun A => (og ms n (l - u) (f + u + 1)).flatMap fun B => (mix A B).map ((f + u) :: ·)
end Vz.T
namespace Vz.T
open Vz Vz.G Vz.H
variable {ms : List Mark}
def tm (ms : List Mark) (l f p t : Nat) : Nat:=(og ms l l f).countP fun σ => decide (σ.idxOf p = t)
def bf (ms : List Mark) (l f p q : Nat) : Nat:=(og ms l l f).countP fun σ => decide (σ.idxOf p < σ.idxOf q)
end Vz.T
namespace Vz.H
open PySem PySem.Spec PyProof.Rows L2 Vz Vz.Q Vz.G Vz.T
local macro_rules
 | `(tactic| simp_arith [$hs,*]) => `(tactic| simp -implicitDefEqProofs -dsimp (disch:=first | assumption | omega | (simp only [List.length_map, List.length_append, List.length_cons, List.length_nil, List.length_range, List.length_take, List.length_drop, List.length_replicate, List.length_reverse, List.length_zipIdx]; omega)) only [Vz.Q.ifB_t, Vz.Q.ifB_f, Vz.Q.bind_ok, Vz.Q.bind_exc, Vz.Q.then_ok, Vz.Q.then_exc, Vz.Q.andThen_nx, Vz.Q.andThen_rt, Vz.Q.andThen_exc, Vz.Q.andThen_bk, Vz.Q.andThen_ct, Vz.Q.lift_some, Vz.Q.ofo_some, Vz.Q.get_ok, Vz.Q.noX_ok, Vz.Q.ifO_t, Vz.Q.varO_, Vz.Q.v_var, Vz.Q.v_c, Vz.Q.v_bin, Vz.Q.v_b, Vz.Q.asB_, Vz.Q.v_and, Vz.Q.v_or, Vz.Q.v_not, Vz.Q.v_v, Vz.Q.v_andV, Vz.Q.v_orV, Vz.Q.v_notV, Vz.Q.v_if, Vz.Q.v_chain, Vz.Q.v_anil, Vz.Q.v_acons, Vz.Q.v_tup, Vz.Q.v_tupK, Vz.Q.v_frz, Vz.Q.v_cell, Vz.Q.v_disp, Vz.Q.lsO_, Vz.Q.v_cat, Vz.Q.v_call, Vz.Q.v_lcall, Vz.Q.v_app, Vz.Q.v_appK, Vz.Q.v_nil, Vz.Q.v_pass, Vz.Q.v_seq, Vz.Q.v_break, Vz.Q.v_cont, Vz.Q.v_expr, Vz.Q.v_ret, Vz.Q.v_retN, Vz.Q.v_sif, Vz.Q.v_set, Vz.Q.v_setLc, Vz.Q.v_setLf, Vz.Q.v_aug, Vz.Q.parO_, Vz.Q.v_par, Vz.Q.nxO_, Vz.Q.v_asg, Vz.Q.v_oname, Vz.Q.v_onnil, Vz.Q.v_oncons, Vz.Q.v_otup, Vz.Q.v_osub, Vz.Q.v_fz, Vz.Q.v_meth, Vz.Q.v_meth0, Vz.Q.someR_, Vz.Q.v_index, Vz.Q.v_isi, Vz.Q.v_neg, Vz.Q.v_rev, Vz.Q.v_range, Vz.Q.v_sl, Vz.Q.v_no, Vz.Q.v_yesI, Vz.Q.v_dictT, Vz.Q.v_iseq, Vz.Q.v_iargs, Vz.Q.v_ifr, Vz.Q.rd_dat, Vz.Q.rd_loc, Vz.Q.rdC_lst, Vz.Q.rdC_frz, Vz.Q.rdC_dT, Vz.Q.rdC_dK, Vz.Q.rd2_, Vz.Q.rds_nil, Vz.Q.rds_cons, Vz.Q.dats_nil, Vz.Q.dats_cons, Vz.Q.small_1, Vz.Q.small_2, Vz.Q.small_3, Vz.Q.small_0, Vz.Q.small_, Vz.Q.one_, Vz.Q.two_, Vz.Q.frd_dat, Vz.Q.frd_loc, Vz.Q.frdC_frz, Vz.Q.frds_nil, Vz.Q.frds_cons, Vz.Q.LstW_, Vz.Q.lstB_, Vz.Q.lstC_, Vz.Q.lstO_, Vz.Q.v_append, Vz.Q.v_insert, Vz.Q.v_extend, Vz.Q.v_popAt, Vz.Q.asInt_, Vz.Q.asLs_, Vz.Q.v_stB, Vz.Q.lim_app, Vz.Q.lim_le, Vz.Q.lim_lt, Vz.Q.addL_, Vz.Q.addD_ll, Vz.Q.addD_tt, Option.bind_some, Option.map_some, addD_ii, subI_ii, ltI_ii, leI_ii, gtI_ii, geI_ii, eqD_ii, isN_non, isN_int, isN_str, List.getElem?_cons_zero, List.getElem?_cons_succ, List.set_cons_zero, List.set_cons_succ, List.length_cons, List.length_nil, List.length_append, Nat.zero_add, Nat.add_zero, Nat.reduceAdd, Nat.reduceSub, Nat.reduceEqDiff, at_app0, at_appk, set_app0, set_appk, List.append_assoc, List.cons_append, List.nil_append, List.append_nil, List.map_cons, List.map_nil, List.replicate, Vz.Q.fn_dat, Vz.Q.fn_nx, Vz.Q.fn_exc, Vz.Q.fn_exn, Vz.Q.fn_loc, Vz.Q.retC_lst, Vz.Q.retC_frz, Vz.Q.retC_dT, Vz.Q.retC_dK, Vz.Q.bodyF_, Vz.Q.bodyO_, Vz.Q.cutR_nil, Vz.Q.cutR_cons, Vz.Q.cutW_dat, Vz.Q.cutW_none, Vz.Q.cutW_exn, Vz.Q.cutW_loc, Vz.Q.cutW_locN, wipeR, List.take_succ_cons, List.take_length, List.take_left, take_appk, List.take_zero, List.take_nil, Vz.Q.v_yes, Vz.Q.v_lcB, Vz.Q.lcO_, Vz.Q.v_cname, Vz.Q.v_ctup, Vz.Q.v_cnnil, Vz.Q.v_cncons, Vz.Q.bb_tf, Vz.Q.bb_ft, Vz.Q.bb_tt, Vz.Q.bb_ff, Vz.Q.bn_tf, Vz.Q.bn_ft, Vz.Q.bn_tt, Vz.Q.bn_ff, eqD_bb, neD_bb, Bool.not_true, Bool.not_false, Bool.and_true, Bool.true_and, Bool.and_self, decide_true, decide_false, eq_self, $hs,*])
local macro_rules
 | `(tactic| simp_arith! [$hs,*]) => `(tactic| simp -implicitDefEqProofs -dsimp (disch:=first | assumption | omega | (simp only [List.length_map, List.length_append, List.length_cons, List.length_nil, List.length_range, List.length_take, List.length_drop, List.length_replicate, List.length_reverse, List.length_zipIdx]; omega)) only [Vz.Q.ifB_t, Vz.Q.ifB_f, Vz.Q.bind_ok, Vz.Q.bind_exc, Vz.Q.then_ok, Vz.Q.then_exc, Vz.Q.andThen_nx, Vz.Q.andThen_rt, Vz.Q.andThen_exc, Vz.Q.andThen_bk, Vz.Q.andThen_ct, Vz.Q.lift_some, Vz.Q.ofo_some, Vz.Q.get_ok, Vz.Q.noX_ok, Vz.Q.ifO_t, Vz.Q.varO_, Vz.Q.v_var, Vz.Q.v_c, Vz.Q.v_bin, Vz.Q.v_b, Vz.Q.asB_, Vz.Q.v_and, Vz.Q.v_or, Vz.Q.v_not, Vz.Q.v_v, Vz.Q.v_andV, Vz.Q.v_orV, Vz.Q.v_notV, Vz.Q.v_if, Vz.Q.v_chain, Vz.Q.v_anil, Vz.Q.v_acons, Vz.Q.v_tup, Vz.Q.v_tupK, Vz.Q.v_frz, Vz.Q.v_cell, Vz.Q.v_disp, Vz.Q.lsO_, Vz.Q.v_cat, Vz.Q.v_call, Vz.Q.v_lcall, Vz.Q.v_app, Vz.Q.v_appK, Vz.Q.v_nil, Vz.Q.v_pass, Vz.Q.v_seq, Vz.Q.v_break, Vz.Q.v_cont, Vz.Q.v_expr, Vz.Q.v_ret, Vz.Q.v_retN, Vz.Q.v_sif, Vz.Q.v_set, Vz.Q.v_setLc, Vz.Q.v_setLf, Vz.Q.v_aug, Vz.Q.parO_, Vz.Q.v_par, Vz.Q.nxO_, Vz.Q.v_asg, Vz.Q.v_oname, Vz.Q.v_onnil, Vz.Q.v_oncons, Vz.Q.v_otup, Vz.Q.v_osub, Vz.Q.v_fz, Vz.Q.v_meth, Vz.Q.v_meth0, Vz.Q.someR_, Vz.Q.v_index, Vz.Q.v_isi, Vz.Q.v_neg, Vz.Q.v_rev, Vz.Q.v_range, Vz.Q.v_sl, Vz.Q.v_no, Vz.Q.v_yesI, Vz.Q.v_dictT, Vz.Q.v_iseq, Vz.Q.v_iargs, Vz.Q.v_ifr, Vz.Q.rd_dat, Vz.Q.rd_loc, Vz.Q.rdC_lst, Vz.Q.rdC_frz, Vz.Q.rdC_dT, Vz.Q.rdC_dK, Vz.Q.rd2_, Vz.Q.rds_nil, Vz.Q.rds_cons, Vz.Q.dats_nil, Vz.Q.dats_cons, Vz.Q.small_1, Vz.Q.small_2, Vz.Q.small_3, Vz.Q.small_0, Vz.Q.small_, Vz.Q.one_, Vz.Q.two_, Vz.Q.frd_dat, Vz.Q.frd_loc, Vz.Q.frdC_frz, Vz.Q.frds_nil, Vz.Q.frds_cons, Vz.Q.LstW_, Vz.Q.lstB_, Vz.Q.lstC_, Vz.Q.lstO_, Vz.Q.v_append, Vz.Q.v_insert, Vz.Q.v_extend, Vz.Q.v_popAt, Vz.Q.asInt_, Vz.Q.asLs_, Vz.Q.v_stB, Vz.Q.lim_app, Vz.Q.lim_le, Vz.Q.lim_lt, Vz.Q.addL_, Vz.Q.addD_ll, Vz.Q.addD_tt, Option.bind_some, Option.map_some, addD_ii, subI_ii, ltI_ii, leI_ii, gtI_ii, geI_ii, eqD_ii, isN_non, isN_int, isN_str, List.getElem?_cons_zero, List.getElem?_cons_succ, List.set_cons_zero, List.set_cons_succ, List.length_cons, List.length_nil, List.length_append, Nat.zero_add, Nat.add_zero, Nat.reduceAdd, Nat.reduceSub, Nat.reduceEqDiff, at_app0, at_appk, set_app0, set_appk, List.append_assoc, List.cons_append, List.nil_append, List.append_nil, List.map_cons, List.map_nil, List.replicate, Vz.Q.fn_dat, Vz.Q.fn_nx, Vz.Q.fn_exc, Vz.Q.fn_exn, Vz.Q.fn_loc, Vz.Q.retC_lst, Vz.Q.retC_frz, Vz.Q.retC_dT, Vz.Q.retC_dK, Vz.Q.bodyF_, Vz.Q.bodyO_, Vz.Q.cutR_nil, Vz.Q.cutR_cons, Vz.Q.cutW_dat, Vz.Q.cutW_none, Vz.Q.cutW_exn, Vz.Q.cutW_loc, Vz.Q.cutW_locN, wipeR, List.take_succ_cons, List.take_length, List.take_left, take_appk, List.take_zero, List.take_nil, Vz.Q.v_yes, Vz.Q.v_lcB, Vz.Q.lcO_, Vz.Q.v_cname, Vz.Q.v_ctup, Vz.Q.v_cnnil, Vz.Q.v_cncons, Vz.Q.bb_tf, Vz.Q.bb_ft, Vz.Q.bb_tt, Vz.Q.bb_ff, Vz.Q.bn_tf, Vz.Q.bn_ft, Vz.Q.bn_tt, Vz.Q.bn_ff, eqD_bb, neD_bb, Bool.not_true, Bool.not_false, Bool.and_true, Bool.true_and, Bool.and_self, decide_true, decide_false, eq_self, Vz.Q.v_setR, Vz.Q.v_cellR, Vz.Q.v_ixR, Vz.Q.v_izd, Vz.Q.par3O_, Vz.Q.v_par3, Vz.Q.v_try, Vz.Q.try_exc, Vz.Q.try_nx, Vz.Q.try_rt, Vz.Q.drop_nx, Vz.Q.drop_rt, Vz.Q.v_raise1, Vz.Q.r1O_, Vz.Q.v_raise0, Vz.Q.v_isNo, Vz.Q.v_isNoN, Vz.Q.isNo_non, Vz.Q.isNo_exn, Vz.Q.v_isX, Vz.Q.isXW_, Vz.Q.v_xf, Vz.Q.xfW_, Vz.Q.v_oseq_t, Vz.Q.v_oseq_l, Vz.Q.enumD_l, Vz.Q.enumD_t, Vz.Q.nums_map, Vz.Q.listD_l, Vz.Q.listD_t, Vz.Q.tupleD_l, Vz.Q.tupleD_t, Vz.Q.lenD_l, Vz.Q.lenD_t, Vz.Q.cutD_l, Vz.Q.cutD_n, Vz.Q.revD_l, Vz.Q.fz_dat, Vz.Q.fz_loc, Vz.Q.fzC_lst, Vz.Q.fzC_frz, Vz.Q.isNN_non, Vz.Q.isNN_int, Vz.Q.isNN_str, Vz.Q.inD_l, Vz.Q.inD_t, Vz.Q.sqB_l, Vz.Q.sqB_t, Bool.false_xor, Bool.true_xor, asI, Vz.Q.walk_dl, Vz.Q.walk_dt, List.length_map, List.map_append, $hs,*])
section
variable {S : Sto} {ρ : Rho}
end
open PySem PySem.Spec PyProof.Rows L2 Vz Vz.Q Vz.G Vz.T
section
variable {S : Sto} {ρ : Rho} {ms : List Mark}
structure BOk (S : Sto) (ps : List (List Key × D)) (B : Sto) : Prop where
 at' : ∀ T, (B ++ T)[S.length]? = some (.dT ps)
 st : ∀ T x, (B ++ T).set S.length x = B.set S.length x ++ T
 tk : ∀ T x, (B.set S.length x ++ T).take (S.length + 1) = S ++ [x]
 len : S.length + 1 ≤ B.length
theorem BOk.start {ps : List (List Key × D)} : BOk S ps (S ++ [.dT ps]):=by
 refine ⟨fun T => ?_, fun T x => ?_, fun T x => ?_, by rw [List.length_append]; exact Nat.le_refl _⟩
 ·rw [List.append_assoc, List.getElem?_append_right (Nat.le_refl _), Nat.sub_self]; rfl
 ·rw [List.set_append_left _ _ (by rw [List.length_append]; simp)]
 ·rw [List.set_append_right _ _ (Nat.le_refl _), Nat.sub_self]
  exact List.take_left' (by simp)
theorem BOk.snoc {ps : List (List Key × D)} {B : Sto} (h : BOk S ps B) (y : C) : BOk S ps (B ++ [y]):=by
 refine ⟨fun T => ?_, fun T x => ?_, fun T x => ?_, by rw [List.length_append]; have:=h.len; omega⟩
 ·rw [List.append_assoc]; exact h.at' _
 ·rw [List.append_assoc, h.st, h.st, List.append_assoc]
 ·rw [h.st, List.append_assoc]; exact h.tk _ _
end
open PySem PySem.Spec PyProof.Rows L2 Vz Vz.Q Vz.G Vz.T
section
variable {S : Sto} {ρ : Rho} {ms : List Mark}
end
open PySem PySem.Spec PyProof.Rows L2 Vz Vz.Q Vz.G Vz.T
section
variable {S : Sto} {xs : List Int} {as : List Anc} {it t : D}
end
open PySem PySem.Spec PyProof.Rows L2 Vz Vz.Q Vz.G Vz.T
local macro_rules
 | `(tactic| simp_arith! [$hs,*]) => `(tactic| simp -implicitDefEqProofs -dsimp (disch:=first | assumption | omega | (simp only [List.length_map, List.length_append, List.length_cons, List.length_nil, List.length_range, List.length_take, List.length_drop, List.length_replicate, List.length_reverse, List.length_zipIdx]; omega)) only [Vz.Q.ifB_t, Vz.Q.ifB_f, Vz.Q.bind_ok, Vz.Q.bind_exc, Vz.Q.then_ok, Vz.Q.then_exc, Vz.Q.andThen_nx, Vz.Q.andThen_rt, Vz.Q.andThen_exc, Vz.Q.andThen_bk, Vz.Q.andThen_ct, Vz.Q.lift_some, Vz.Q.ofo_some, Vz.Q.get_ok, Vz.Q.noX_ok, Vz.Q.ifO_t, Vz.Q.varO_, Vz.Q.v_var, Vz.Q.v_c, Vz.Q.v_bin, Vz.Q.v_b, Vz.Q.asB_, Vz.Q.v_and, Vz.Q.v_or, Vz.Q.v_not, Vz.Q.v_v, Vz.Q.v_andV, Vz.Q.v_orV, Vz.Q.v_notV, Vz.Q.v_if, Vz.Q.v_chain, Vz.Q.v_anil, Vz.Q.v_acons, Vz.Q.v_tup, Vz.Q.v_tupK, Vz.Q.v_frz, Vz.Q.v_cell, Vz.Q.v_disp, Vz.Q.lsO_, Vz.Q.v_cat, Vz.Q.v_call, Vz.Q.v_lcall, Vz.Q.v_app, Vz.Q.v_appK, Vz.Q.v_nil, Vz.Q.v_pass, Vz.Q.v_seq, Vz.Q.v_break, Vz.Q.v_cont, Vz.Q.v_expr, Vz.Q.v_ret, Vz.Q.v_retN, Vz.Q.v_sif, Vz.Q.v_set, Vz.Q.v_setLc, Vz.Q.v_setLf, Vz.Q.v_aug, Vz.Q.parO_, Vz.Q.v_par, Vz.Q.nxO_, Vz.Q.v_asg, Vz.Q.v_oname, Vz.Q.v_onnil, Vz.Q.v_oncons, Vz.Q.v_otup, Vz.Q.v_osub, Vz.Q.v_fz, Vz.Q.v_meth, Vz.Q.v_meth0, Vz.Q.someR_, Vz.Q.v_index, Vz.Q.v_isi, Vz.Q.v_neg, Vz.Q.v_rev, Vz.Q.v_range, Vz.Q.v_sl, Vz.Q.v_no, Vz.Q.v_yesI, Vz.Q.v_dictT, Vz.Q.v_iseq, Vz.Q.v_iargs, Vz.Q.v_ifr, Vz.Q.rd_dat, Vz.Q.rd_loc, Vz.Q.rdC_lst, Vz.Q.rdC_frz, Vz.Q.rdC_dT, Vz.Q.rdC_dK, Vz.Q.rd2_, Vz.Q.rds_nil, Vz.Q.rds_cons, Vz.Q.dats_nil, Vz.Q.dats_cons, Vz.Q.small_1, Vz.Q.small_2, Vz.Q.small_3, Vz.Q.small_0, Vz.Q.small_, Vz.Q.one_, Vz.Q.two_, Vz.Q.frd_dat, Vz.Q.frd_loc, Vz.Q.frdC_frz, Vz.Q.frds_nil, Vz.Q.frds_cons, Vz.Q.LstW_, Vz.Q.lstB_, Vz.Q.lstC_, Vz.Q.lstO_, Vz.Q.v_append, Vz.Q.v_insert, Vz.Q.v_extend, Vz.Q.v_popAt, Vz.Q.asInt_, Vz.Q.asLs_, Vz.Q.v_stB, Vz.Q.lim_app, Vz.Q.lim_le, Vz.Q.lim_lt, Vz.Q.addL_, Vz.Q.addD_ll, Vz.Q.addD_tt, Option.bind_some, Option.map_some, addD_ii, subI_ii, ltI_ii, leI_ii, gtI_ii, geI_ii, eqD_ii, isN_non, isN_int, isN_str, List.getElem?_cons_zero, List.getElem?_cons_succ, List.set_cons_zero, List.set_cons_succ, List.length_cons, List.length_nil, List.length_append, Nat.zero_add, Nat.add_zero, Nat.reduceAdd, Nat.reduceSub, Nat.reduceEqDiff, at_app0, at_appk, set_app0, set_appk, List.append_assoc, List.cons_append, List.nil_append, List.append_nil, List.map_cons, List.map_nil, List.replicate, Vz.Q.fn_dat, Vz.Q.fn_nx, Vz.Q.fn_exc, Vz.Q.fn_exn, Vz.Q.fn_loc, Vz.Q.retC_lst, Vz.Q.retC_frz, Vz.Q.retC_dT, Vz.Q.retC_dK, Vz.Q.bodyF_, Vz.Q.bodyO_, Vz.Q.cutR_nil, Vz.Q.cutR_cons, Vz.Q.cutW_dat, Vz.Q.cutW_none, Vz.Q.cutW_exn, Vz.Q.cutW_loc, Vz.Q.cutW_locN, wipeR, List.take_succ_cons, List.take_length, List.take_left, take_appk, List.take_zero, List.take_nil, Vz.Q.v_yes, Vz.Q.v_lcB, Vz.Q.lcO_, Vz.Q.v_cname, Vz.Q.v_ctup, Vz.Q.v_cnnil, Vz.Q.v_cncons, Vz.Q.bb_tf, Vz.Q.bb_ft, Vz.Q.bb_tt, Vz.Q.bb_ff, Vz.Q.bn_tf, Vz.Q.bn_ft, Vz.Q.bn_tt, Vz.Q.bn_ff, eqD_bb, neD_bb, Bool.not_true, Bool.not_false, Bool.and_true, Bool.true_and, Bool.and_self, decide_true, decide_false, eq_self, Vz.Q.v_count, Vz.Q.cntB_l, Vz.Q.v_lam, Vz.Q.v_cat, Vz.Q.v_cseq_t, Vz.Q.v_cseq_l, Vz.Q.v_bor, Vz.Q.borO_b, Vz.Q.borW_dat, Vz.Q.borW_none, Vz.Q.borW_loc, Vz.Q.borC_lst, Vz.Q.borC_frz, Vz.Q.v_setR, Vz.Q.v_cellR, Vz.Q.v_ixR, Vz.Q.v_izd, Vz.Q.par3O_, Vz.Q.v_par3, Vz.Q.v_try, Vz.Q.try_exc, Vz.Q.try_nx, Vz.Q.try_rt, Vz.Q.drop_nx, Vz.Q.drop_rt, Vz.Q.v_raise1, Vz.Q.r1O_, Vz.Q.v_raise0, Vz.Q.v_isNo, Vz.Q.v_isNoN, Vz.Q.isNo_non, Vz.Q.isNo_exn, Vz.Q.v_isX, Vz.Q.isXW_, Vz.Q.v_xf, Vz.Q.xfW_, Vz.Q.v_oseq_t, Vz.Q.v_oseq_l, Vz.Q.enumD_l, Vz.Q.enumD_t, Vz.Q.nums_map, Vz.Q.listD_l, Vz.Q.listD_t, Vz.Q.tupleD_l, Vz.Q.tupleD_t, Vz.Q.lenD_l, Vz.Q.lenD_t, Vz.Q.cutD_l, Vz.Q.cutD_n, Vz.Q.revD_l, Vz.Q.fz_dat, Vz.Q.fz_loc, Vz.Q.fzC_lst, Vz.Q.fzC_frz, Vz.Q.isNN_non, Vz.Q.isNN_int, Vz.Q.isNN_str, Vz.Q.inD_l, Vz.Q.inD_t, Vz.Q.sqB_l, Vz.Q.sqB_t, Bool.false_xor, Bool.true_xor, asI, Vz.Q.walk_dl, Vz.Q.walk_dt, List.length_map, List.map_append, $hs,*])
section
variable {S : Sto} {xs : List Int} {as : List Anc} {it t : D} {ms : List Mark}
end
open PySem PySem.Spec PyProof.Rows L2 Vz Vz.Q Vz.G Vz.T
section
variable {S : Sto} {xs : List Int} {as : List Anc} {it t : D} {ms : List Mark}
end
end Vz.H
namespace Vz.T
open Vz Vz.G Vz.H
variable {ms : List Mark}
structure AscP (P : List Nat) (n : Nat) : Prop where
 pw : P.Pairwise (· < ·)
 lt : ∀ p ∈ P, p < n
theorem AscP.nd {P : List Nat} {n : Nat} (h : AscP P n) : P.Nodup:=h.pw.imp fun h => by omega
end Vz.T
namespace Vz.H
open Vz Vz.G Vz.T
variable {xs : List Int} {as : List Anc}
end Vz.H
namespace Vz.H
open PySem PySem.Spec PyProof.Rows L2 Vz Vz.Q Vz.G Vz.T
local macro_rules
 | `(tactic| simp_arith [$hs,*]) => `(tactic| simp -implicitDefEqProofs -dsimp (disch:=first | assumption | omega | (simp only [List.length_map, List.length_append, List.length_cons, List.length_nil, List.length_range, List.length_take, List.length_drop, List.length_replicate, List.length_reverse, List.length_zipIdx]; omega)) only [Vz.Q.ifB_t, Vz.Q.ifB_f, Vz.Q.bind_ok, Vz.Q.bind_exc, Vz.Q.then_ok, Vz.Q.then_exc, Vz.Q.andThen_nx, Vz.Q.andThen_rt, Vz.Q.andThen_exc, Vz.Q.andThen_bk, Vz.Q.andThen_ct, Vz.Q.lift_some, Vz.Q.ofo_some, Vz.Q.get_ok, Vz.Q.noX_ok, Vz.Q.ifO_t, Vz.Q.varO_, Vz.Q.v_var, Vz.Q.v_c, Vz.Q.v_bin, Vz.Q.v_b, Vz.Q.asB_, Vz.Q.v_and, Vz.Q.v_or, Vz.Q.v_not, Vz.Q.v_v, Vz.Q.v_andV, Vz.Q.v_orV, Vz.Q.v_notV, Vz.Q.v_if, Vz.Q.v_chain, Vz.Q.v_anil, Vz.Q.v_acons, Vz.Q.v_tup, Vz.Q.v_tupK, Vz.Q.v_frz, Vz.Q.v_cell, Vz.Q.v_disp, Vz.Q.lsO_, Vz.Q.v_cat, Vz.Q.v_call, Vz.Q.v_lcall, Vz.Q.v_app, Vz.Q.v_appK, Vz.Q.v_nil, Vz.Q.v_pass, Vz.Q.v_seq, Vz.Q.v_break, Vz.Q.v_cont, Vz.Q.v_expr, Vz.Q.v_ret, Vz.Q.v_retN, Vz.Q.v_sif, Vz.Q.v_set, Vz.Q.v_setLc, Vz.Q.v_setLf, Vz.Q.v_aug, Vz.Q.parO_, Vz.Q.v_par, Vz.Q.nxO_, Vz.Q.v_asg, Vz.Q.v_oname, Vz.Q.v_onnil, Vz.Q.v_oncons, Vz.Q.v_otup, Vz.Q.v_osub, Vz.Q.v_fz, Vz.Q.v_meth, Vz.Q.v_meth0, Vz.Q.someR_, Vz.Q.v_index, Vz.Q.v_isi, Vz.Q.v_neg, Vz.Q.v_rev, Vz.Q.v_range, Vz.Q.v_sl, Vz.Q.v_no, Vz.Q.v_yesI, Vz.Q.v_dictT, Vz.Q.v_iseq, Vz.Q.v_iargs, Vz.Q.v_ifr, Vz.Q.rd_dat, Vz.Q.rd_loc, Vz.Q.rdC_lst, Vz.Q.rdC_frz, Vz.Q.rdC_dT, Vz.Q.rdC_dK, Vz.Q.rd2_, Vz.Q.rds_nil, Vz.Q.rds_cons, Vz.Q.dats_nil, Vz.Q.dats_cons, Vz.Q.small_1, Vz.Q.small_2, Vz.Q.small_3, Vz.Q.small_0, Vz.Q.small_, Vz.Q.one_, Vz.Q.two_, Vz.Q.frd_dat, Vz.Q.frd_loc, Vz.Q.frdC_frz, Vz.Q.frds_nil, Vz.Q.frds_cons, Vz.Q.LstW_, Vz.Q.lstB_, Vz.Q.lstC_, Vz.Q.lstO_, Vz.Q.v_append, Vz.Q.v_insert, Vz.Q.v_extend, Vz.Q.v_popAt, Vz.Q.asInt_, Vz.Q.asLs_, Vz.Q.v_stB, Vz.Q.lim_app, Vz.Q.lim_le, Vz.Q.lim_lt, Vz.Q.addL_, Vz.Q.addD_ll, Vz.Q.addD_tt, Option.bind_some, Option.map_some, addD_ii, subI_ii, ltI_ii, leI_ii, gtI_ii, geI_ii, eqD_ii, isN_non, isN_int, isN_str, List.getElem?_cons_zero, List.getElem?_cons_succ, List.set_cons_zero, List.set_cons_succ, List.length_cons, List.length_nil, List.length_append, Nat.zero_add, Nat.add_zero, Nat.reduceAdd, Nat.reduceSub, Nat.reduceEqDiff, at_app0, at_appk, set_app0, set_appk, List.append_assoc, List.cons_append, List.nil_append, List.append_nil, List.map_cons, List.map_nil, List.replicate, Vz.Q.fn_dat, Vz.Q.fn_nx, Vz.Q.fn_exc, Vz.Q.fn_exn, Vz.Q.fn_loc, Vz.Q.retC_lst, Vz.Q.retC_frz, Vz.Q.retC_dT, Vz.Q.retC_dK, Vz.Q.bodyF_, Vz.Q.bodyO_, Vz.Q.cutR_nil, Vz.Q.cutR_cons, Vz.Q.cutW_dat, Vz.Q.cutW_none, Vz.Q.cutW_exn, Vz.Q.cutW_loc, Vz.Q.cutW_locN, wipeR, List.take_succ_cons, List.take_length, List.take_left, take_appk, List.take_zero, List.take_nil, Vz.Q.v_yes, Vz.Q.v_lcB, Vz.Q.lcO_, Vz.Q.v_cname, Vz.Q.v_ctup, Vz.Q.v_cnnil, Vz.Q.v_cncons, Vz.Q.bb_tf, Vz.Q.bb_ft, Vz.Q.bb_tt, Vz.Q.bb_ff, Vz.Q.bn_tf, Vz.Q.bn_ft, Vz.Q.bn_tt, Vz.Q.bn_ff, eqD_bb, neD_bb, Bool.not_true, Bool.not_false, Bool.and_true, Bool.true_and, Bool.and_self, decide_true, decide_false, eq_self, $hs,*])
local macro_rules
 | `(tactic| simp_arith! [$hs,*]) => `(tactic| simp -implicitDefEqProofs -dsimp (disch:=first | assumption | omega | (simp only [List.length_map, List.length_append, List.length_cons, List.length_nil, List.length_range, List.length_take, List.length_drop, List.length_replicate, List.length_reverse, List.length_zipIdx]; omega)) only [Vz.Q.ifB_t, Vz.Q.ifB_f, Vz.Q.bind_ok, Vz.Q.bind_exc, Vz.Q.then_ok, Vz.Q.then_exc, Vz.Q.andThen_nx, Vz.Q.andThen_rt, Vz.Q.andThen_exc, Vz.Q.andThen_bk, Vz.Q.andThen_ct, Vz.Q.lift_some, Vz.Q.ofo_some, Vz.Q.get_ok, Vz.Q.noX_ok, Vz.Q.ifO_t, Vz.Q.varO_, Vz.Q.v_var, Vz.Q.v_c, Vz.Q.v_bin, Vz.Q.v_b, Vz.Q.asB_, Vz.Q.v_and, Vz.Q.v_or, Vz.Q.v_not, Vz.Q.v_v, Vz.Q.v_andV, Vz.Q.v_orV, Vz.Q.v_notV, Vz.Q.v_if, Vz.Q.v_chain, Vz.Q.v_anil, Vz.Q.v_acons, Vz.Q.v_tup, Vz.Q.v_tupK, Vz.Q.v_frz, Vz.Q.v_cell, Vz.Q.v_disp, Vz.Q.lsO_, Vz.Q.v_cat, Vz.Q.v_call, Vz.Q.v_lcall, Vz.Q.v_app, Vz.Q.v_appK, Vz.Q.v_nil, Vz.Q.v_pass, Vz.Q.v_seq, Vz.Q.v_break, Vz.Q.v_cont, Vz.Q.v_expr, Vz.Q.v_ret, Vz.Q.v_retN, Vz.Q.v_sif, Vz.Q.v_set, Vz.Q.v_setLc, Vz.Q.v_setLf, Vz.Q.v_aug, Vz.Q.parO_, Vz.Q.v_par, Vz.Q.nxO_, Vz.Q.v_asg, Vz.Q.v_oname, Vz.Q.v_onnil, Vz.Q.v_oncons, Vz.Q.v_otup, Vz.Q.v_osub, Vz.Q.v_fz, Vz.Q.v_meth, Vz.Q.v_meth0, Vz.Q.someR_, Vz.Q.v_index, Vz.Q.v_isi, Vz.Q.v_neg, Vz.Q.v_rev, Vz.Q.v_range, Vz.Q.v_sl, Vz.Q.v_no, Vz.Q.v_yesI, Vz.Q.v_dictT, Vz.Q.v_iseq, Vz.Q.v_iargs, Vz.Q.v_ifr, Vz.Q.rd_dat, Vz.Q.rd_loc, Vz.Q.rdC_lst, Vz.Q.rdC_frz, Vz.Q.rdC_dT, Vz.Q.rdC_dK, Vz.Q.rd2_, Vz.Q.rds_nil, Vz.Q.rds_cons, Vz.Q.dats_nil, Vz.Q.dats_cons, Vz.Q.small_1, Vz.Q.small_2, Vz.Q.small_3, Vz.Q.small_0, Vz.Q.small_, Vz.Q.one_, Vz.Q.two_, Vz.Q.frd_dat, Vz.Q.frd_loc, Vz.Q.frdC_frz, Vz.Q.frds_nil, Vz.Q.frds_cons, Vz.Q.LstW_, Vz.Q.lstB_, Vz.Q.lstC_, Vz.Q.lstO_, Vz.Q.v_append, Vz.Q.v_insert, Vz.Q.v_extend, Vz.Q.v_popAt, Vz.Q.asInt_, Vz.Q.asLs_, Vz.Q.v_stB, Vz.Q.lim_app, Vz.Q.lim_le, Vz.Q.lim_lt, Vz.Q.addL_, Vz.Q.addD_ll, Vz.Q.addD_tt, Option.bind_some, Option.map_some, addD_ii, subI_ii, ltI_ii, leI_ii, gtI_ii, geI_ii, eqD_ii, isN_non, isN_int, isN_str, List.getElem?_cons_zero, List.getElem?_cons_succ, List.set_cons_zero, List.set_cons_succ, List.length_cons, List.length_nil, List.length_append, Nat.zero_add, Nat.add_zero, Nat.reduceAdd, Nat.reduceSub, Nat.reduceEqDiff, at_app0, at_appk, set_app0, set_appk, List.append_assoc, List.cons_append, List.nil_append, List.append_nil, List.map_cons, List.map_nil, List.replicate, Vz.Q.fn_dat, Vz.Q.fn_nx, Vz.Q.fn_exc, Vz.Q.fn_exn, Vz.Q.fn_loc, Vz.Q.retC_lst, Vz.Q.retC_frz, Vz.Q.retC_dT, Vz.Q.retC_dK, Vz.Q.bodyF_, Vz.Q.bodyO_, Vz.Q.cutR_nil, Vz.Q.cutR_cons, Vz.Q.cutW_dat, Vz.Q.cutW_none, Vz.Q.cutW_exn, Vz.Q.cutW_loc, Vz.Q.cutW_locN, wipeR, List.take_succ_cons, List.take_length, List.take_left, take_appk, List.take_zero, List.take_nil, Vz.Q.v_yes, Vz.Q.v_lcB, Vz.Q.lcO_, Vz.Q.v_cname, Vz.Q.v_ctup, Vz.Q.v_cnnil, Vz.Q.v_cncons, Vz.Q.bb_tf, Vz.Q.bb_ft, Vz.Q.bb_tt, Vz.Q.bb_ff, Vz.Q.bn_tf, Vz.Q.bn_ft, Vz.Q.bn_tt, Vz.Q.bn_ff, eqD_bb, neD_bb, Bool.not_true, Bool.not_false, Bool.and_true, Bool.true_and, Bool.and_self, decide_true, decide_false, eq_self, Vz.Q.v_count, Vz.Q.cntB_l, Vz.Q.v_lam, Vz.Q.v_cat, Vz.Q.v_cseq_t, Vz.Q.v_cseq_l, Vz.Q.v_bor, Vz.Q.borO_b, Vz.Q.borW_dat, Vz.Q.borW_none, Vz.Q.borW_loc, Vz.Q.borC_lst, Vz.Q.borC_frz, Vz.Q.v_setR, Vz.Q.v_cellR, Vz.Q.v_ixR, Vz.Q.v_izd, Vz.Q.par3O_, Vz.Q.v_par3, Vz.Q.v_try, Vz.Q.try_exc, Vz.Q.try_nx, Vz.Q.try_rt, Vz.Q.drop_nx, Vz.Q.drop_rt, Vz.Q.v_raise1, Vz.Q.r1O_, Vz.Q.v_raise0, Vz.Q.v_isNo, Vz.Q.v_isNoN, Vz.Q.isNo_non, Vz.Q.isNo_exn, Vz.Q.v_isX, Vz.Q.isXW_, Vz.Q.v_xf, Vz.Q.xfW_, Vz.Q.v_oseq_t, Vz.Q.v_oseq_l, Vz.Q.enumD_l, Vz.Q.enumD_t, Vz.Q.nums_map, Vz.Q.listD_l, Vz.Q.listD_t, Vz.Q.tupleD_l, Vz.Q.tupleD_t, Vz.Q.lenD_l, Vz.Q.lenD_t, Vz.Q.cutD_l, Vz.Q.cutD_n, Vz.Q.revD_l, Vz.Q.fz_dat, Vz.Q.fz_loc, Vz.Q.fzC_lst, Vz.Q.fzC_frz, Vz.Q.isNN_non, Vz.Q.isNN_int, Vz.Q.isNN_str, Vz.Q.inD_l, Vz.Q.inD_t, Vz.Q.sqB_l, Vz.Q.sqB_t, Bool.false_xor, Bool.true_xor, asI, Vz.Q.walk_dl, Vz.Q.walk_dt, List.length_map, List.map_append, $hs,*])
section
variable {S : Sto} {xs : List Int} {as : List Anc} {it t : D} {ms : List Mark}
structure IsSee (xs : List Int) (d : D) (P : List Nat) : Prop where
 wk : ∀ T, walk T (.dat d) = some (.ds ((P.map (key xs)).map D.int))
end
open Vz Vz.G Vz.T
variable {xs : List Int} {as : List Anc}
def vw (n : Nat) (τ : List Nat) : List Nat:=(List.range n).filter (τ.contains ·)
structure InA (xs : List Int) (as : List Anc) (σ : List Nat) : Prop where
 pm : σ.Perm (List.range xs.length)
 nd : σ.Nodup
open PySem PySem.Spec PyProof.Rows L2 Vz Vz.Q Vz.G Vz.T
section
variable {S : Sto} {xs : List Int} {as : List Anc} {it t : D} {ms : List Mark} {ρ : Rho}
end
open PySem PySem.Spec PyProof.Rows L2 Vz Vz.Q Vz.G Vz.T
section
variable {S : Sto} {xs : List Int} {as : List Anc} {it t : D} {ms : List Mark}
end
open PySem PySem.Spec PyProof.Rows L2 Vz Vz.Q Vz.G Vz.T
variable {S : Sto} {xs : List Int} {as : List Anc} {it t : D} {ms : List Mark}
open PySem PySem.Spec PyProof.Rows L2 Vz Vz.Q Vz.G Vz.T
section
variable {xs ys : List Int} {as bs : List Anc}
structure Two (xs ys : List Int) (as bs : List Anc) : Prop where
 c1 : Cs xs as
 c2 : Cs ys bs
 pos : 0 < xs.length
 few : xs.length + ys.length ≤ 12
 dis : ∀ k ∈ xs, k ∉ ys
 all : ∀ a ∈ bs, a ≠ .unk
end
open PySem PySem.Spec PyProof.Rows L2 Vz Vz.Q Vz.G Vz.T
section
variable {n m : Nat}
def JL (n : Nat) (σ ρ : List Nat) : List (List Nat):=(mix (σ.drop (σ.idxOf (n - 1) + 1)) (ρ.map (n + ·))).map (σ.take (σ.idxOf (n - 1) + 1) ++ ·)
end
section
variable {xs ys : List Int} {as bs : List Anc}
end
end Vz.H
namespace Vz
open PySem PySem.Spec PyProof.Rows L2
end Vz
namespace Vz.H
open PySem PySem.Spec PyProof.Rows L2 Vz Vz.Q Vz.G Vz.T
local macro_rules
 | `(tactic| simp_arith [$hs,*]) => `(tactic| simp -implicitDefEqProofs -dsimp (disch:=first | assumption | omega | (simp only [List.length_map, List.length_append, List.length_cons, List.length_nil, List.length_range, List.length_take, List.length_drop, List.length_replicate, List.length_reverse, List.length_zipIdx]; omega)) only [Vz.Q.ifB_t, Vz.Q.ifB_f, Vz.Q.bind_ok, Vz.Q.bind_exc, Vz.Q.then_ok, Vz.Q.then_exc, Vz.Q.andThen_nx, Vz.Q.andThen_rt, Vz.Q.andThen_exc, Vz.Q.andThen_bk, Vz.Q.andThen_ct, Vz.Q.lift_some, Vz.Q.ofo_some, Vz.Q.get_ok, Vz.Q.noX_ok, Vz.Q.ifO_t, Vz.Q.varO_, Vz.Q.v_var, Vz.Q.v_c, Vz.Q.v_bin, Vz.Q.v_b, Vz.Q.asB_, Vz.Q.v_and, Vz.Q.v_or, Vz.Q.v_not, Vz.Q.v_v, Vz.Q.v_andV, Vz.Q.v_orV, Vz.Q.v_notV, Vz.Q.v_if, Vz.Q.v_chain, Vz.Q.v_anil, Vz.Q.v_acons, Vz.Q.v_tup, Vz.Q.v_tupK, Vz.Q.v_frz, Vz.Q.v_cell, Vz.Q.v_disp, Vz.Q.lsO_, Vz.Q.v_cat, Vz.Q.v_call, Vz.Q.v_lcall, Vz.Q.v_app, Vz.Q.v_appK, Vz.Q.v_nil, Vz.Q.v_pass, Vz.Q.v_seq, Vz.Q.v_break, Vz.Q.v_cont, Vz.Q.v_expr, Vz.Q.v_ret, Vz.Q.v_retN, Vz.Q.v_sif, Vz.Q.v_set, Vz.Q.v_setLc, Vz.Q.v_setLf, Vz.Q.v_aug, Vz.Q.parO_, Vz.Q.v_par, Vz.Q.nxO_, Vz.Q.v_asg, Vz.Q.v_oname, Vz.Q.v_onnil, Vz.Q.v_oncons, Vz.Q.v_otup, Vz.Q.v_osub, Vz.Q.v_fz, Vz.Q.v_meth, Vz.Q.v_meth0, Vz.Q.someR_, Vz.Q.v_index, Vz.Q.v_isi, Vz.Q.v_neg, Vz.Q.v_rev, Vz.Q.v_range, Vz.Q.v_sl, Vz.Q.v_no, Vz.Q.v_yesI, Vz.Q.v_dictT, Vz.Q.v_iseq, Vz.Q.v_iargs, Vz.Q.v_ifr, Vz.Q.rd_dat, Vz.Q.rd_loc, Vz.Q.rdC_lst, Vz.Q.rdC_frz, Vz.Q.rdC_dT, Vz.Q.rdC_dK, Vz.Q.rd2_, Vz.Q.rds_nil, Vz.Q.rds_cons, Vz.Q.dats_nil, Vz.Q.dats_cons, Vz.Q.small_1, Vz.Q.small_2, Vz.Q.small_3, Vz.Q.small_0, Vz.Q.small_, Vz.Q.one_, Vz.Q.two_, Vz.Q.frd_dat, Vz.Q.frd_loc, Vz.Q.frdC_frz, Vz.Q.frds_nil, Vz.Q.frds_cons, Vz.Q.LstW_, Vz.Q.lstB_, Vz.Q.lstC_, Vz.Q.lstO_, Vz.Q.v_append, Vz.Q.v_insert, Vz.Q.v_extend, Vz.Q.v_popAt, Vz.Q.asInt_, Vz.Q.asLs_, Vz.Q.v_stB, Vz.Q.lim_app, Vz.Q.lim_le, Vz.Q.lim_lt, Vz.Q.addL_, Vz.Q.addD_ll, Vz.Q.addD_tt, Option.bind_some, Option.map_some, addD_ii, subI_ii, ltI_ii, leI_ii, gtI_ii, geI_ii, eqD_ii, isN_non, isN_int, isN_str, List.getElem?_cons_zero, List.getElem?_cons_succ, List.set_cons_zero, List.set_cons_succ, List.length_cons, List.length_nil, List.length_append, Nat.zero_add, Nat.add_zero, Nat.reduceAdd, Nat.reduceSub, Nat.reduceEqDiff, at_app0, at_appk, set_app0, set_appk, List.append_assoc, List.cons_append, List.nil_append, List.append_nil, List.map_cons, List.map_nil, List.replicate, Vz.Q.fn_dat, Vz.Q.fn_nx, Vz.Q.fn_exc, Vz.Q.fn_exn, Vz.Q.fn_loc, Vz.Q.retC_lst, Vz.Q.retC_frz, Vz.Q.retC_dT, Vz.Q.retC_dK, Vz.Q.bodyF_, Vz.Q.bodyO_, Vz.Q.cutR_nil, Vz.Q.cutR_cons, Vz.Q.cutW_dat, Vz.Q.cutW_none, Vz.Q.cutW_exn, Vz.Q.cutW_loc, Vz.Q.cutW_locN, wipeR, List.take_succ_cons, List.take_length, List.take_left, take_appk, List.take_zero, List.take_nil, Vz.Q.v_yes, Vz.Q.v_lcB, Vz.Q.lcO_, Vz.Q.v_cname, Vz.Q.v_ctup, Vz.Q.v_cnnil, Vz.Q.v_cncons, Vz.Q.bb_tf, Vz.Q.bb_ft, Vz.Q.bb_tt, Vz.Q.bb_ff, Vz.Q.bn_tf, Vz.Q.bn_ft, Vz.Q.bn_tt, Vz.Q.bn_ff, eqD_bb, neD_bb, Bool.not_true, Bool.not_false, Bool.and_true, Bool.true_and, Bool.and_self, decide_true, decide_false, eq_self, $hs,*])
local macro_rules
 | `(tactic| simp_arith! [$hs,*]) => `(tactic| simp -implicitDefEqProofs -dsimp (disch:=first | assumption | omega | (simp only [List.length_map, List.length_append, List.length_cons, List.length_nil, List.length_range, List.length_take, List.length_drop, List.length_replicate, List.length_reverse, List.length_zipIdx]; omega)) only [Vz.Q.ifB_t, Vz.Q.ifB_f, Vz.Q.bind_ok, Vz.Q.bind_exc, Vz.Q.then_ok, Vz.Q.then_exc, Vz.Q.andThen_nx, Vz.Q.andThen_rt, Vz.Q.andThen_exc, Vz.Q.andThen_bk, Vz.Q.andThen_ct, Vz.Q.lift_some, Vz.Q.ofo_some, Vz.Q.get_ok, Vz.Q.noX_ok, Vz.Q.ifO_t, Vz.Q.varO_, Vz.Q.v_var, Vz.Q.v_c, Vz.Q.v_bin, Vz.Q.v_b, Vz.Q.asB_, Vz.Q.v_and, Vz.Q.v_or, Vz.Q.v_not, Vz.Q.v_v, Vz.Q.v_andV, Vz.Q.v_orV, Vz.Q.v_notV, Vz.Q.v_if, Vz.Q.v_chain, Vz.Q.v_anil, Vz.Q.v_acons, Vz.Q.v_tup, Vz.Q.v_tupK, Vz.Q.v_frz, Vz.Q.v_cell, Vz.Q.v_disp, Vz.Q.lsO_, Vz.Q.v_cat, Vz.Q.v_call, Vz.Q.v_lcall, Vz.Q.v_app, Vz.Q.v_appK, Vz.Q.v_nil, Vz.Q.v_pass, Vz.Q.v_seq, Vz.Q.v_break, Vz.Q.v_cont, Vz.Q.v_expr, Vz.Q.v_ret, Vz.Q.v_retN, Vz.Q.v_sif, Vz.Q.v_set, Vz.Q.v_setLc, Vz.Q.v_setLf, Vz.Q.v_aug, Vz.Q.parO_, Vz.Q.v_par, Vz.Q.nxO_, Vz.Q.v_asg, Vz.Q.v_oname, Vz.Q.v_onnil, Vz.Q.v_oncons, Vz.Q.v_otup, Vz.Q.v_osub, Vz.Q.v_fz, Vz.Q.v_meth, Vz.Q.v_meth0, Vz.Q.someR_, Vz.Q.v_index, Vz.Q.v_isi, Vz.Q.v_neg, Vz.Q.v_rev, Vz.Q.v_range, Vz.Q.v_sl, Vz.Q.v_no, Vz.Q.v_yesI, Vz.Q.v_dictT, Vz.Q.v_iseq, Vz.Q.v_iargs, Vz.Q.v_ifr, Vz.Q.rd_dat, Vz.Q.rd_loc, Vz.Q.rdC_lst, Vz.Q.rdC_frz, Vz.Q.rdC_dT, Vz.Q.rdC_dK, Vz.Q.rd2_, Vz.Q.rds_nil, Vz.Q.rds_cons, Vz.Q.dats_nil, Vz.Q.dats_cons, Vz.Q.small_1, Vz.Q.small_2, Vz.Q.small_3, Vz.Q.small_0, Vz.Q.small_, Vz.Q.one_, Vz.Q.two_, Vz.Q.frd_dat, Vz.Q.frd_loc, Vz.Q.frdC_frz, Vz.Q.frds_nil, Vz.Q.frds_cons, Vz.Q.LstW_, Vz.Q.lstB_, Vz.Q.lstC_, Vz.Q.lstO_, Vz.Q.v_append, Vz.Q.v_insert, Vz.Q.v_extend, Vz.Q.v_popAt, Vz.Q.asInt_, Vz.Q.asLs_, Vz.Q.v_stB, Vz.Q.lim_app, Vz.Q.lim_le, Vz.Q.lim_lt, Vz.Q.addL_, Vz.Q.addD_ll, Vz.Q.addD_tt, Option.bind_some, Option.map_some, addD_ii, subI_ii, ltI_ii, leI_ii, gtI_ii, geI_ii, eqD_ii, isN_non, isN_int, isN_str, List.getElem?_cons_zero, List.getElem?_cons_succ, List.set_cons_zero, List.set_cons_succ, List.length_cons, List.length_nil, List.length_append, Nat.zero_add, Nat.add_zero, Nat.reduceAdd, Nat.reduceSub, Nat.reduceEqDiff, at_app0, at_appk, set_app0, set_appk, List.append_assoc, List.cons_append, List.nil_append, List.append_nil, List.map_cons, List.map_nil, List.replicate, Vz.Q.fn_dat, Vz.Q.fn_nx, Vz.Q.fn_exc, Vz.Q.fn_exn, Vz.Q.fn_loc, Vz.Q.retC_lst, Vz.Q.retC_frz, Vz.Q.retC_dT, Vz.Q.retC_dK, Vz.Q.bodyF_, Vz.Q.bodyO_, Vz.Q.cutR_nil, Vz.Q.cutR_cons, Vz.Q.cutW_dat, Vz.Q.cutW_none, Vz.Q.cutW_exn, Vz.Q.cutW_loc, Vz.Q.cutW_locN, wipeR, List.take_succ_cons, List.take_length, List.take_left, take_appk, List.take_zero, List.take_nil, Vz.Q.v_yes, Vz.Q.v_lcB, Vz.Q.lcO_, Vz.Q.v_cname, Vz.Q.v_ctup, Vz.Q.v_cnnil, Vz.Q.v_cncons, Vz.Q.bb_tf, Vz.Q.bb_ft, Vz.Q.bb_tt, Vz.Q.bb_ff, Vz.Q.bn_tf, Vz.Q.bn_ft, Vz.Q.bn_tt, Vz.Q.bn_ff, eqD_bb, neD_bb, Bool.not_true, Bool.not_false, Bool.and_true, Bool.true_and, Bool.and_self, decide_true, decide_false, eq_self, Vz.Q.v_count, Vz.Q.cntB_l, Vz.Q.v_lam, Vz.Q.v_cat, Vz.Q.v_cseq_t, Vz.Q.v_cseq_l, Vz.Q.v_bor, Vz.Q.borO_b, Vz.Q.borW_dat, Vz.Q.borW_none, Vz.Q.borW_loc, Vz.Q.borC_lst, Vz.Q.borC_frz, Vz.Q.v_setR, Vz.Q.v_cellR, Vz.Q.v_ixR, Vz.Q.v_izd, Vz.Q.par3O_, Vz.Q.v_par3, Vz.Q.v_try, Vz.Q.try_exc, Vz.Q.try_nx, Vz.Q.try_rt, Vz.Q.drop_nx, Vz.Q.drop_rt, Vz.Q.v_raise1, Vz.Q.r1O_, Vz.Q.v_raise0, Vz.Q.v_isNo, Vz.Q.v_isNoN, Vz.Q.isNo_non, Vz.Q.isNo_exn, Vz.Q.v_isX, Vz.Q.isXW_, Vz.Q.v_xf, Vz.Q.xfW_, Vz.Q.v_oseq_t, Vz.Q.v_oseq_l, Vz.Q.enumD_l, Vz.Q.enumD_t, Vz.Q.nums_map, Vz.Q.listD_l, Vz.Q.listD_t, Vz.Q.tupleD_l, Vz.Q.tupleD_t, Vz.Q.lenD_l, Vz.Q.lenD_t, Vz.Q.cutD_l, Vz.Q.cutD_n, Vz.Q.revD_l, Vz.Q.fz_dat, Vz.Q.fz_loc, Vz.Q.fzC_lst, Vz.Q.fzC_frz, Vz.Q.isNN_non, Vz.Q.isNN_int, Vz.Q.isNN_str, Vz.Q.inD_l, Vz.Q.inD_t, Vz.Q.sqB_l, Vz.Q.sqB_t, Bool.false_xor, Bool.true_xor, asI, Vz.Q.walk_dl, Vz.Q.walk_dt, List.length_map, List.map_append, $hs,*])
section
variable {rest : Sto}
end
end Vz.H
namespace Vz.H
open PySem PySem.Spec PyProof.Rows L2 Vz Vz.Q Vz.G Vz.T
section
variable {xs : List Int} {as : List Anc} {v : Int} {j : Nat} {a : Anc}
structure Ins (xs : List Int) (as : List Anc) (v : Int) (j : Nat) (a : Anc) : Prop where
 cs : Cs xs as
 few : xs.length ≤ 11
 new : v ∉ xs
 spot : (j = 0 ∧ a = .front) ∨ ∃ p, p < xs.length ∧ j = p + 1 ∧ a = .it (key xs p)
theorem Ins.le (h : Ins xs as v j a) : j ≤ xs.length:=by
 rcases h.spot with ⟨e, _⟩ | ⟨p, h1, h2, _⟩ <;> omega
end
open PySem PySem.Spec PyProof.Rows L2 Vz Vz.Q Vz.G Vz.T
local macro_rules
 | `(tactic| simp_arith [$hs,*]) => `(tactic| simp -implicitDefEqProofs -dsimp (disch:=first | assumption | omega | (simp only [List.length_map, List.length_append, List.length_cons, List.length_nil, List.length_range, List.length_take, List.length_drop, List.length_replicate, List.length_reverse, List.length_zipIdx]; omega)) only [Vz.Q.ifB_t, Vz.Q.ifB_f, Vz.Q.bind_ok, Vz.Q.bind_exc, Vz.Q.then_ok, Vz.Q.then_exc, Vz.Q.andThen_nx, Vz.Q.andThen_rt, Vz.Q.andThen_exc, Vz.Q.andThen_bk, Vz.Q.andThen_ct, Vz.Q.lift_some, Vz.Q.ofo_some, Vz.Q.get_ok, Vz.Q.noX_ok, Vz.Q.ifO_t, Vz.Q.varO_, Vz.Q.v_var, Vz.Q.v_c, Vz.Q.v_bin, Vz.Q.v_b, Vz.Q.asB_, Vz.Q.v_and, Vz.Q.v_or, Vz.Q.v_not, Vz.Q.v_v, Vz.Q.v_andV, Vz.Q.v_orV, Vz.Q.v_notV, Vz.Q.v_if, Vz.Q.v_chain, Vz.Q.v_anil, Vz.Q.v_acons, Vz.Q.v_tup, Vz.Q.v_tupK, Vz.Q.v_frz, Vz.Q.v_cell, Vz.Q.v_disp, Vz.Q.lsO_, Vz.Q.v_cat, Vz.Q.v_call, Vz.Q.v_lcall, Vz.Q.v_app, Vz.Q.v_appK, Vz.Q.v_nil, Vz.Q.v_pass, Vz.Q.v_seq, Vz.Q.v_break, Vz.Q.v_cont, Vz.Q.v_expr, Vz.Q.v_ret, Vz.Q.v_retN, Vz.Q.v_sif, Vz.Q.v_set, Vz.Q.v_setLc, Vz.Q.v_setLf, Vz.Q.v_aug, Vz.Q.parO_, Vz.Q.v_par, Vz.Q.nxO_, Vz.Q.v_asg, Vz.Q.v_oname, Vz.Q.v_onnil, Vz.Q.v_oncons, Vz.Q.v_otup, Vz.Q.v_osub, Vz.Q.v_fz, Vz.Q.v_meth, Vz.Q.v_meth0, Vz.Q.someR_, Vz.Q.v_index, Vz.Q.v_isi, Vz.Q.v_neg, Vz.Q.v_rev, Vz.Q.v_range, Vz.Q.v_sl, Vz.Q.v_no, Vz.Q.v_yesI, Vz.Q.v_dictT, Vz.Q.v_iseq, Vz.Q.v_iargs, Vz.Q.v_ifr, Vz.Q.rd_dat, Vz.Q.rd_loc, Vz.Q.rdC_lst, Vz.Q.rdC_frz, Vz.Q.rdC_dT, Vz.Q.rdC_dK, Vz.Q.rd2_, Vz.Q.rds_nil, Vz.Q.rds_cons, Vz.Q.dats_nil, Vz.Q.dats_cons, Vz.Q.small_1, Vz.Q.small_2, Vz.Q.small_3, Vz.Q.small_0, Vz.Q.small_, Vz.Q.one_, Vz.Q.two_, Vz.Q.frd_dat, Vz.Q.frd_loc, Vz.Q.frdC_frz, Vz.Q.frds_nil, Vz.Q.frds_cons, Vz.Q.LstW_, Vz.Q.lstB_, Vz.Q.lstC_, Vz.Q.lstO_, Vz.Q.v_append, Vz.Q.v_insert, Vz.Q.v_extend, Vz.Q.v_popAt, Vz.Q.asInt_, Vz.Q.asLs_, Vz.Q.v_stB, Vz.Q.lim_app, Vz.Q.lim_le, Vz.Q.lim_lt, Vz.Q.addL_, Vz.Q.addD_ll, Vz.Q.addD_tt, Option.bind_some, Option.map_some, addD_ii, subI_ii, ltI_ii, leI_ii, gtI_ii, geI_ii, eqD_ii, isN_non, isN_int, isN_str, List.getElem?_cons_zero, List.getElem?_cons_succ, List.set_cons_zero, List.set_cons_succ, List.length_cons, List.length_nil, List.length_append, Nat.zero_add, Nat.add_zero, Nat.reduceAdd, Nat.reduceSub, Nat.reduceEqDiff, at_app0, at_appk, set_app0, set_appk, List.append_assoc, List.cons_append, List.nil_append, List.append_nil, List.map_cons, List.map_nil, List.replicate, Vz.Q.fn_dat, Vz.Q.fn_nx, Vz.Q.fn_exc, Vz.Q.fn_exn, Vz.Q.fn_loc, Vz.Q.retC_lst, Vz.Q.retC_frz, Vz.Q.retC_dT, Vz.Q.retC_dK, Vz.Q.bodyF_, Vz.Q.bodyO_, Vz.Q.cutR_nil, Vz.Q.cutR_cons, Vz.Q.cutW_dat, Vz.Q.cutW_none, Vz.Q.cutW_exn, Vz.Q.cutW_loc, Vz.Q.cutW_locN, wipeR, List.take_succ_cons, List.take_length, List.take_left, take_appk, List.take_zero, List.take_nil, Vz.Q.v_yes, Vz.Q.v_lcB, Vz.Q.lcO_, Vz.Q.v_cname, Vz.Q.v_ctup, Vz.Q.v_cnnil, Vz.Q.v_cncons, Vz.Q.bb_tf, Vz.Q.bb_ft, Vz.Q.bb_tt, Vz.Q.bb_ff, Vz.Q.bn_tf, Vz.Q.bn_ft, Vz.Q.bn_tt, Vz.Q.bn_ff, eqD_bb, neD_bb, Bool.not_true, Bool.not_false, Bool.and_true, Bool.true_and, Bool.and_self, decide_true, decide_false, eq_self, $hs,*])
local macro_rules
 | `(tactic| simp_arith! [$hs,*]) => `(tactic| simp -implicitDefEqProofs -dsimp (disch:=first | assumption | omega | (simp only [List.length_map, List.length_append, List.length_cons, List.length_nil, List.length_range, List.length_take, List.length_drop, List.length_replicate, List.length_reverse, List.length_zipIdx]; omega)) only [Vz.Q.ifB_t, Vz.Q.ifB_f, Vz.Q.bind_ok, Vz.Q.bind_exc, Vz.Q.then_ok, Vz.Q.then_exc, Vz.Q.andThen_nx, Vz.Q.andThen_rt, Vz.Q.andThen_exc, Vz.Q.andThen_bk, Vz.Q.andThen_ct, Vz.Q.lift_some, Vz.Q.ofo_some, Vz.Q.get_ok, Vz.Q.noX_ok, Vz.Q.ifO_t, Vz.Q.varO_, Vz.Q.v_var, Vz.Q.v_c, Vz.Q.v_bin, Vz.Q.v_b, Vz.Q.asB_, Vz.Q.v_and, Vz.Q.v_or, Vz.Q.v_not, Vz.Q.v_v, Vz.Q.v_andV, Vz.Q.v_orV, Vz.Q.v_notV, Vz.Q.v_if, Vz.Q.v_chain, Vz.Q.v_anil, Vz.Q.v_acons, Vz.Q.v_tup, Vz.Q.v_tupK, Vz.Q.v_frz, Vz.Q.v_cell, Vz.Q.v_disp, Vz.Q.lsO_, Vz.Q.v_cat, Vz.Q.v_call, Vz.Q.v_lcall, Vz.Q.v_app, Vz.Q.v_appK, Vz.Q.v_nil, Vz.Q.v_pass, Vz.Q.v_seq, Vz.Q.v_break, Vz.Q.v_cont, Vz.Q.v_expr, Vz.Q.v_ret, Vz.Q.v_retN, Vz.Q.v_sif, Vz.Q.v_set, Vz.Q.v_setLc, Vz.Q.v_setLf, Vz.Q.v_aug, Vz.Q.parO_, Vz.Q.v_par, Vz.Q.nxO_, Vz.Q.v_asg, Vz.Q.v_oname, Vz.Q.v_onnil, Vz.Q.v_oncons, Vz.Q.v_otup, Vz.Q.v_osub, Vz.Q.v_fz, Vz.Q.v_meth, Vz.Q.v_meth0, Vz.Q.someR_, Vz.Q.v_index, Vz.Q.v_isi, Vz.Q.v_neg, Vz.Q.v_rev, Vz.Q.v_range, Vz.Q.v_sl, Vz.Q.v_no, Vz.Q.v_yesI, Vz.Q.v_dictT, Vz.Q.v_iseq, Vz.Q.v_iargs, Vz.Q.v_ifr, Vz.Q.rd_dat, Vz.Q.rd_loc, Vz.Q.rdC_lst, Vz.Q.rdC_frz, Vz.Q.rdC_dT, Vz.Q.rdC_dK, Vz.Q.rd2_, Vz.Q.rds_nil, Vz.Q.rds_cons, Vz.Q.dats_nil, Vz.Q.dats_cons, Vz.Q.small_1, Vz.Q.small_2, Vz.Q.small_3, Vz.Q.small_0, Vz.Q.small_, Vz.Q.one_, Vz.Q.two_, Vz.Q.frd_dat, Vz.Q.frd_loc, Vz.Q.frdC_frz, Vz.Q.frds_nil, Vz.Q.frds_cons, Vz.Q.LstW_, Vz.Q.lstB_, Vz.Q.lstC_, Vz.Q.lstO_, Vz.Q.v_append, Vz.Q.v_insert, Vz.Q.v_extend, Vz.Q.v_popAt, Vz.Q.asInt_, Vz.Q.asLs_, Vz.Q.v_stB, Vz.Q.lim_app, Vz.Q.lim_le, Vz.Q.lim_lt, Vz.Q.addL_, Vz.Q.addD_ll, Vz.Q.addD_tt, Option.bind_some, Option.map_some, addD_ii, subI_ii, ltI_ii, leI_ii, gtI_ii, geI_ii, eqD_ii, isN_non, isN_int, isN_str, List.getElem?_cons_zero, List.getElem?_cons_succ, List.set_cons_zero, List.set_cons_succ, List.length_cons, List.length_nil, List.length_append, Nat.zero_add, Nat.add_zero, Nat.reduceAdd, Nat.reduceSub, Nat.reduceEqDiff, at_app0, at_appk, set_app0, set_appk, List.append_assoc, List.cons_append, List.nil_append, List.append_nil, List.map_cons, List.map_nil, List.replicate, Vz.Q.fn_dat, Vz.Q.fn_nx, Vz.Q.fn_exc, Vz.Q.fn_exn, Vz.Q.fn_loc, Vz.Q.retC_lst, Vz.Q.retC_frz, Vz.Q.retC_dT, Vz.Q.retC_dK, Vz.Q.bodyF_, Vz.Q.bodyO_, Vz.Q.cutR_nil, Vz.Q.cutR_cons, Vz.Q.cutW_dat, Vz.Q.cutW_none, Vz.Q.cutW_exn, Vz.Q.cutW_loc, Vz.Q.cutW_locN, wipeR, List.take_succ_cons, List.take_length, List.take_left, take_appk, List.take_zero, List.take_nil, Vz.Q.v_yes, Vz.Q.v_lcB, Vz.Q.lcO_, Vz.Q.v_cname, Vz.Q.v_ctup, Vz.Q.v_cnnil, Vz.Q.v_cncons, Vz.Q.bb_tf, Vz.Q.bb_ft, Vz.Q.bb_tt, Vz.Q.bb_ff, Vz.Q.bn_tf, Vz.Q.bn_ft, Vz.Q.bn_tt, Vz.Q.bn_ff, eqD_bb, neD_bb, Bool.not_true, Bool.not_false, Bool.and_true, Bool.true_and, Bool.and_self, decide_true, decide_false, eq_self, Vz.Q.v_count, Vz.Q.cntB_l, Vz.Q.v_lam, Vz.Q.v_cat, Vz.Q.v_cseq_t, Vz.Q.v_cseq_l, Vz.Q.v_bor, Vz.Q.borO_b, Vz.Q.borW_dat, Vz.Q.borW_none, Vz.Q.borW_loc, Vz.Q.borC_lst, Vz.Q.borC_frz, Vz.Q.v_setR, Vz.Q.v_cellR, Vz.Q.v_ixR, Vz.Q.v_izd, Vz.Q.par3O_, Vz.Q.v_par3, Vz.Q.v_try, Vz.Q.try_exc, Vz.Q.try_nx, Vz.Q.try_rt, Vz.Q.drop_nx, Vz.Q.drop_rt, Vz.Q.v_raise1, Vz.Q.r1O_, Vz.Q.v_raise0, Vz.Q.v_isNo, Vz.Q.v_isNoN, Vz.Q.isNo_non, Vz.Q.isNo_exn, Vz.Q.v_isX, Vz.Q.isXW_, Vz.Q.v_xf, Vz.Q.xfW_, Vz.Q.v_oseq_t, Vz.Q.v_oseq_l, Vz.Q.enumD_l, Vz.Q.enumD_t, Vz.Q.nums_map, Vz.Q.listD_l, Vz.Q.listD_t, Vz.Q.tupleD_l, Vz.Q.tupleD_t, Vz.Q.lenD_l, Vz.Q.lenD_t, Vz.Q.cutD_l, Vz.Q.cutD_n, Vz.Q.revD_l, Vz.Q.fz_dat, Vz.Q.fz_loc, Vz.Q.fzC_lst, Vz.Q.fzC_frz, Vz.Q.isNN_non, Vz.Q.isNN_int, Vz.Q.isNN_str, Vz.Q.inD_l, Vz.Q.inD_t, Vz.Q.sqB_l, Vz.Q.sqB_t, Bool.false_xor, Bool.true_xor, asI, Vz.Q.walk_dl, Vz.Q.walk_dt, List.length_map, List.map_append, $hs,*])
section
variable {S : Sto} {xs : List Int} {as : List Anc} {v : Int} {j : Nat} {a : Anc}
end
open PySem PySem.Spec PyProof.Rows L2 Vz Vz.Q Vz.G
section
variable {S : Sto} {xs : List Int} {as : List Anc} {it t : D}
theorem Path.snoc {ms : List Mark} {ord : List Nat} : ∀ {τ ps : List Nat} {p : Nat}, Path ms ord ps τ → p ∈ ord.filter (okN ms (ps ++ τ)) → Path ms ord ps (τ ++ [p])
 | [], ps, p, _, h => ⟨by simpa using h, trivial⟩
 | a :: τ, ps, p, h, hp => ⟨h.1, Path.snoc h.2 (by rw [List.append_assoc]; exact hp)⟩
end
open PySem PySem.Spec PyProof.Rows L2 Vz Vz.Q Vz.G Vz.T
section
variable {ρ : Rho} {S : Sto}
end
section
variable {S : Sto} {k : Nat} {L J : List D}
end
open PySem PySem.Spec PyProof.Rows L2 Vz Vz.Q Vz.G Vz.T
structure EdS where
 xs : List Int
 as : List Anc
 σ : List Nat
structure EdOk (s : EdS) : Prop where
 cs : Cs s.xs s.as
 ord : s.σ ∈ allP s.xs s.as
 rng : ∀ i ∈ s.xs, 0 ≤ i ∧ i < 10 ^ 10
section
variable {S : Sto} {xs : List Int} {as : List Anc} {v : Int} {a : Anc} {j : Nat} {s s' : EdS}
end
open PySem PySem.Spec PyProof.Rows L2 Vz Vz.Q Vz.G Vz.T
section
variable {S : Sto} {k : Nat} {L J : List D} {s s' : EdS} {v : Int} {a : Anc}
end
open PySem PySem.Spec PyProof.Rows L2 Vz Vz.Q Vz.G Vz.T
section
variable {S : Sto} {k : Nat} {L J : List D} {s s' : EdS} {v : Int} {a : Anc}
end
open PySem PySem.Spec PyProof.Rows L2 Vz Vz.Q
local macro_rules
 | `(tactic| simp_arith! [$hs,*]) => `(tactic| simp -implicitDefEqProofs -dsimp (disch:=first | assumption | omega | (simp only [List.length_map, List.length_append, List.length_cons, List.length_nil, List.length_range, List.length_take, List.length_drop, List.length_replicate, List.length_reverse, List.length_zipIdx]; omega)) only [Vz.Q.ifB_t, Vz.Q.ifB_f, Vz.Q.bind_ok, Vz.Q.bind_exc, Vz.Q.then_ok, Vz.Q.then_exc, Vz.Q.andThen_nx, Vz.Q.andThen_rt, Vz.Q.andThen_exc, Vz.Q.andThen_bk, Vz.Q.andThen_ct, Vz.Q.lift_some, Vz.Q.ofo_some, Vz.Q.get_ok, Vz.Q.noX_ok, Vz.Q.ifO_t, Vz.Q.varO_, Vz.Q.v_var, Vz.Q.v_c, Vz.Q.v_bin, Vz.Q.v_b, Vz.Q.asB_, Vz.Q.v_and, Vz.Q.v_or, Vz.Q.v_not, Vz.Q.v_v, Vz.Q.v_andV, Vz.Q.v_orV, Vz.Q.v_notV, Vz.Q.v_if, Vz.Q.v_chain, Vz.Q.v_anil, Vz.Q.v_acons, Vz.Q.v_tup, Vz.Q.v_tupK, Vz.Q.v_frz, Vz.Q.v_cell, Vz.Q.v_disp, Vz.Q.lsO_, Vz.Q.v_cat, Vz.Q.v_call, Vz.Q.v_lcall, Vz.Q.v_app, Vz.Q.v_appK, Vz.Q.v_nil, Vz.Q.v_pass, Vz.Q.v_seq, Vz.Q.v_break, Vz.Q.v_cont, Vz.Q.v_expr, Vz.Q.v_ret, Vz.Q.v_retN, Vz.Q.v_sif, Vz.Q.v_set, Vz.Q.v_setLc, Vz.Q.v_setLf, Vz.Q.v_aug, Vz.Q.parO_, Vz.Q.v_par, Vz.Q.nxO_, Vz.Q.v_asg, Vz.Q.v_oname, Vz.Q.v_onnil, Vz.Q.v_oncons, Vz.Q.v_otup, Vz.Q.v_osub, Vz.Q.v_fz, Vz.Q.v_meth, Vz.Q.v_meth0, Vz.Q.someR_, Vz.Q.v_index, Vz.Q.v_isi, Vz.Q.v_neg, Vz.Q.v_rev, Vz.Q.v_range, Vz.Q.v_sl, Vz.Q.v_no, Vz.Q.v_yesI, Vz.Q.v_dictT, Vz.Q.v_iseq, Vz.Q.v_iargs, Vz.Q.v_ifr, Vz.Q.rd_dat, Vz.Q.rd_loc, Vz.Q.rdC_lst, Vz.Q.rdC_frz, Vz.Q.rdC_dT, Vz.Q.rdC_dK, Vz.Q.rd2_, Vz.Q.rds_nil, Vz.Q.rds_cons, Vz.Q.dats_nil, Vz.Q.dats_cons, Vz.Q.small_1, Vz.Q.small_2, Vz.Q.small_3, Vz.Q.small_0, Vz.Q.small_, Vz.Q.one_, Vz.Q.two_, Vz.Q.frd_dat, Vz.Q.frd_loc, Vz.Q.frdC_frz, Vz.Q.frds_nil, Vz.Q.frds_cons, Vz.Q.LstW_, Vz.Q.lstB_, Vz.Q.lstC_, Vz.Q.lstO_, Vz.Q.v_append, Vz.Q.v_insert, Vz.Q.v_extend, Vz.Q.v_popAt, Vz.Q.asInt_, Vz.Q.asLs_, Vz.Q.v_stB, Vz.Q.lim_app, Vz.Q.lim_le, Vz.Q.lim_lt, Vz.Q.addL_, Vz.Q.addD_ll, Vz.Q.addD_tt, Option.bind_some, Option.map_some, addD_ii, subI_ii, ltI_ii, leI_ii, gtI_ii, geI_ii, eqD_ii, isN_non, isN_int, isN_str, List.getElem?_cons_zero, List.getElem?_cons_succ, List.set_cons_zero, List.set_cons_succ, List.length_cons, List.length_nil, List.length_append, Nat.zero_add, Nat.add_zero, Nat.reduceAdd, Nat.reduceSub, Nat.reduceEqDiff, at_app0, at_appk, set_app0, set_appk, List.append_assoc, List.cons_append, List.nil_append, List.append_nil, List.map_cons, List.map_nil, List.replicate, Vz.Q.fn_dat, Vz.Q.fn_nx, Vz.Q.fn_exc, Vz.Q.fn_exn, Vz.Q.fn_loc, Vz.Q.retC_lst, Vz.Q.retC_frz, Vz.Q.retC_dT, Vz.Q.retC_dK, Vz.Q.bodyF_, Vz.Q.bodyO_, Vz.Q.cutR_nil, Vz.Q.cutR_cons, Vz.Q.cutW_dat, Vz.Q.cutW_none, Vz.Q.cutW_exn, Vz.Q.cutW_loc, Vz.Q.cutW_locN, wipeR, List.take_succ_cons, List.take_length, List.take_left, take_appk, List.take_zero, List.take_nil, Vz.Q.v_yes, Vz.Q.v_lcB, Vz.Q.lcO_, Vz.Q.v_cname, Vz.Q.v_ctup, Vz.Q.v_cnnil, Vz.Q.v_cncons, Vz.Q.bb_tf, Vz.Q.bb_ft, Vz.Q.bb_tt, Vz.Q.bb_ff, Vz.Q.bn_tf, Vz.Q.bn_ft, Vz.Q.bn_tt, Vz.Q.bn_ff, eqD_bb, neD_bb, Bool.not_true, Bool.not_false, Bool.and_true, Bool.true_and, Bool.and_self, decide_true, decide_false, eq_self, Vz.Q.v_setR, Vz.Q.v_cellR, Vz.Q.v_ixR, Vz.Q.v_izd, Vz.Q.par3O_, Vz.Q.v_par3, Vz.Q.v_try, Vz.Q.try_exc, Vz.Q.try_nx, Vz.Q.try_rt, Vz.Q.drop_nx, Vz.Q.drop_rt, Vz.Q.v_raise1, Vz.Q.r1O_, Vz.Q.v_raise0, Vz.Q.v_isNo, Vz.Q.v_isNoN, Vz.Q.isNo_non, Vz.Q.isNo_exn, Vz.Q.v_isX, Vz.Q.isXW_, Vz.Q.v_xf, Vz.Q.xfW_, Vz.Q.v_oseq_t, Vz.Q.v_oseq_l, Vz.Q.enumD_l, Vz.Q.enumD_t, Vz.Q.nums_map, Vz.Q.listD_l, Vz.Q.listD_t, Vz.Q.tupleD_l, Vz.Q.tupleD_t, Vz.Q.lenD_l, Vz.Q.lenD_t, Vz.Q.cutD_l, Vz.Q.cutD_n, Vz.Q.revD_l, Vz.Q.fz_dat, Vz.Q.fz_loc, Vz.Q.fzC_lst, Vz.Q.fzC_frz, Vz.Q.isNN_non, Vz.Q.isNN_int, Vz.Q.isNN_str, Vz.Q.inD_l, Vz.Q.inD_t, Vz.Q.sqB_l, Vz.Q.sqB_t, Bool.false_xor, Bool.true_xor, asI, Vz.Q.walk_dl, Vz.Q.walk_dt, List.length_map, List.map_append, $hs,*])
mutual
def nd : D → Nat
 | .list xs => nds xs + 1
 | .tup _ xs => nds xs + 1
 | _ => 1
def nds : List D → Nat
 | [] => 0
 | x :: xs => nd x + nds xs
end
def flN : Fl → Bool
 | .nod => true
 | _ => false
mutual
def fine (m l : Nat) : D → Bool
 | .none => true
 | .bool _ => true
 | .int i => decide (i.natAbs ≤ m)
 | .str x => PyData.strOk x && decide (x.cps.size ≤ 24)
 | .list xs => fines m l xs && decide (xs.length ≤ l)
 | .tup f xs => flN f && (fines m l xs && decide (xs.length ≤ l))
 | .dT _ => false
 | .dK _ => false
def fines (m l : Nat) : List D → Bool
 | [] => true
 | x :: xs => fine m l x && fines m l xs
end
theorem fines_all {m l : Nat} : ∀ {xs : List D}, fines m l xs = true ↔ ∀ d ∈ xs, fine m l d = true
 | [] => ⟨fun _ d h => (nomatch h), fun _ => rfl⟩
 | x :: xs => by
  show (fine m l x && fines m l xs) = true ↔ _
  rw [Bool.and_eq_true_iff, fines_all (xs:=xs)]
  constructor
  ·rintro ⟨h1, h2⟩ d hd
   rcases List.mem_cons.mp hd with rfl | hd
   ·exact h1
   ·exact h2 d hd
  ·intro h
   exact ⟨h x (List.mem_cons_self ..), fun d hd => h d (List.mem_cons_of_mem _ hd)⟩
theorem deps_all {k : Nat} : ∀ {xs : List D}, deps xs ≤ k ↔ ∀ d ∈ xs, dep d ≤ k
 | [] => ⟨fun _ d h => (nomatch h), fun _ => Nat.zero_le _⟩
 | x :: xs => by
  show max (dep x) (deps xs) ≤ k ↔ _
  rw [Nat.max_le, deps_all (xs:=xs)]
  constructor
  ·rintro ⟨h1, h2⟩ d hd
   rcases List.mem_cons.mp hd with rfl | hd
   ·exact h1
   ·exact h2 d hd
  ·intro h
   exact ⟨h x (List.mem_cons_self ..), fun d hd => h d (List.mem_cons_of_mem _ hd)⟩
theorem nds_sub : ∀ {a b : List D}, a.Sublist b → nds a ≤ nds b
 | _, _, .slnil => Nat.le_refl _
 | _, _, .cons x h => by
  have:=nds_sub h
  show _ ≤ nd x + _
  omega
 | _, _, .cons₂ x h => by
  have:=nds_sub h
  show nd x + _ ≤ nd x + _
  omega
mutual
theorem fine_mono {m l m' l' : Nat} (h1 : m ≤ m') (h2 : l ≤ l') : ∀ d : D, fine m l d = true → fine m' l' d = true
 | .none, _ => rfl
 | .bool _, _ => rfl
 | .int i, h => decide_eq_true (Nat.le_trans (of_decide_eq_true h) h1)
 | .str _, h => h
 | .list xs, h => by
  obtain ⟨a, b⟩:=Bool.and_eq_true_iff.mp h
  exact Bool.and_eq_true_iff.mpr ⟨fines_mono h1 h2 xs a, decide_eq_true (Nat.le_trans (of_decide_eq_true b) h2)⟩
 | .tup f xs, h => by
  obtain ⟨c, h⟩:=Bool.and_eq_true_iff.mp h
  obtain ⟨a, b⟩:=Bool.and_eq_true_iff.mp h
  exact Bool.and_eq_true_iff.mpr ⟨c, Bool.and_eq_true_iff.mpr ⟨fines_mono h1 h2 xs a, decide_eq_true (Nat.le_trans (of_decide_eq_true b) h2)⟩⟩
 | .dT _, h => nomatch h
 | .dK _, h => nomatch h
theorem fines_mono {m l m' l' : Nat} (h1 : m ≤ m') (h2 : l ≤ l') : ∀ ds : List D, fines m l ds = true → fines m' l' ds = true
 | [], _ => rfl
 | d :: ds, h => by
  obtain ⟨a, b⟩:=Bool.and_eq_true_iff.mp h
  exact Bool.and_eq_true_iff.mpr ⟨fine_mono h1 h2 d a, fines_mono h1 h2 ds b⟩
end
structure Nv (m l k n : Nat) (d : D) : Prop where
 fi : fine m l d = true
 dp : dep d ≤ k
 nn : nd d ≤ n
theorem Nv.le {m l k n m' l' k' n' : Nat} {d : D} (h : Nv m l k n d) (h1 : m ≤ m') (h2 : l ≤ l') (h3 : k ≤ k') (h4 : n ≤ n') : Nv m' l' k' n' d:=⟨fine_mono h1 h2 d h.fi, Nat.le_trans h.dp h3, Nat.le_trans h.nn h4⟩
structure NvL (m l k n : Nat) (ds : List D) : Prop where
 fi : ∀ d ∈ ds, fine m l d = true
 dp : ∀ d ∈ ds, dep d ≤ k
 nn : nds ds ≤ n
theorem NvL.sub {m l k n : Nat} {a b : List D} (h : NvL m l k n b) (hs : a.Sublist b) : NvL m l k n a:=⟨fun d hd => h.fi d (hs.subset hd), fun d hd => h.dp d (hs.subset hd), Nat.le_trans (nds_sub hs) h.nn⟩
theorem NvL.le {m l k n m' l' k' n' : Nat} {ds : List D} (h : NvL m l k n ds) (h1 : m ≤ m') (h2 : l ≤ l') (h3 : k ≤ k') (h4 : n ≤ n') : NvL m' l' k' n' ds:=⟨fun d hd => fine_mono h1 h2 d (h.fi d hd), fun d hd => Nat.le_trans (h.dp d hd) h3, Nat.le_trans h.nn h4⟩
inductive LT2 (ds : List D) : D → Prop
 | l : LT2 ds (.list ds)
 | t : LT2 ds (.tup .nod ds)
theorem Nv.parts {m l k n : Nat} {ds : List D} {d : D} (h : Nv m l k n d) (hd : LT2 ds d) : ∃ k' n', k = k' + 1 ∧ n = n' + 1 ∧ NvL m l k' n' ds ∧ ds.length ≤ l:=by
 obtain ⟨h1, h2, h3⟩:=h
 have key : fines m l ds = true ∧ ds.length ≤ l ∧ deps ds + 1 ≤ k ∧ nds ds + 1 ≤ n:=by
  cases hd with
  | l =>
   obtain ⟨a, b⟩:=Bool.and_eq_true_iff.mp h1
   exact ⟨a, of_decide_eq_true b, h2, h3⟩
  | t =>
   have h1 : (true && (fines m l ds && decide (ds.length ≤ l))) = true:=h1
   rw [Bool.true_and] at h1
   obtain ⟨a, b⟩:=Bool.and_eq_true_iff.mp h1
   exact ⟨a, of_decide_eq_true b, h2, h3⟩
 obtain ⟨a, b, c, e⟩:=key
 exact ⟨k - 1, n - 1, by omega, by omega, ⟨fines_all.mp a, deps_all.mp (by omega), by omega⟩, b⟩
open PySem PySem.Spec PyProof.Rows L2 Vz Vz.Q
local macro_rules
 | `(tactic| simp_arith! [$hs,*]) => `(tactic| simp -implicitDefEqProofs -dsimp (disch:=first | assumption | omega | (simp only [List.length_map, List.length_append, List.length_cons, List.length_nil, List.length_range, List.length_take, List.length_drop, List.length_replicate, List.length_reverse, List.length_zipIdx]; omega)) only [Vz.Q.ifB_t, Vz.Q.ifB_f, Vz.Q.bind_ok, Vz.Q.bind_exc, Vz.Q.then_ok, Vz.Q.then_exc, Vz.Q.andThen_nx, Vz.Q.andThen_rt, Vz.Q.andThen_exc, Vz.Q.andThen_bk, Vz.Q.andThen_ct, Vz.Q.lift_some, Vz.Q.ofo_some, Vz.Q.get_ok, Vz.Q.noX_ok, Vz.Q.ifO_t, Vz.Q.varO_, Vz.Q.v_var, Vz.Q.v_c, Vz.Q.v_bin, Vz.Q.v_b, Vz.Q.asB_, Vz.Q.v_and, Vz.Q.v_or, Vz.Q.v_not, Vz.Q.v_v, Vz.Q.v_andV, Vz.Q.v_orV, Vz.Q.v_notV, Vz.Q.v_if, Vz.Q.v_chain, Vz.Q.v_anil, Vz.Q.v_acons, Vz.Q.v_tup, Vz.Q.v_tupK, Vz.Q.v_frz, Vz.Q.v_cell, Vz.Q.v_disp, Vz.Q.lsO_, Vz.Q.v_cat, Vz.Q.v_call, Vz.Q.v_lcall, Vz.Q.v_app, Vz.Q.v_appK, Vz.Q.v_nil, Vz.Q.v_pass, Vz.Q.v_seq, Vz.Q.v_break, Vz.Q.v_cont, Vz.Q.v_expr, Vz.Q.v_ret, Vz.Q.v_retN, Vz.Q.v_sif, Vz.Q.v_set, Vz.Q.v_setLc, Vz.Q.v_setLf, Vz.Q.v_aug, Vz.Q.parO_, Vz.Q.v_par, Vz.Q.nxO_, Vz.Q.v_asg, Vz.Q.v_oname, Vz.Q.v_onnil, Vz.Q.v_oncons, Vz.Q.v_otup, Vz.Q.v_osub, Vz.Q.v_fz, Vz.Q.v_meth, Vz.Q.v_meth0, Vz.Q.someR_, Vz.Q.v_index, Vz.Q.v_isi, Vz.Q.v_neg, Vz.Q.v_rev, Vz.Q.v_range, Vz.Q.v_sl, Vz.Q.v_no, Vz.Q.v_yesI, Vz.Q.v_dictT, Vz.Q.v_iseq, Vz.Q.v_iargs, Vz.Q.v_ifr, Vz.Q.rd_dat, Vz.Q.rd_loc, Vz.Q.rdC_lst, Vz.Q.rdC_frz, Vz.Q.rdC_dT, Vz.Q.rdC_dK, Vz.Q.rd2_, Vz.Q.rds_nil, Vz.Q.rds_cons, Vz.Q.dats_nil, Vz.Q.dats_cons, Vz.Q.small_1, Vz.Q.small_2, Vz.Q.small_3, Vz.Q.small_0, Vz.Q.small_, Vz.Q.one_, Vz.Q.two_, Vz.Q.frd_dat, Vz.Q.frd_loc, Vz.Q.frdC_frz, Vz.Q.frds_nil, Vz.Q.frds_cons, Vz.Q.LstW_, Vz.Q.lstB_, Vz.Q.lstC_, Vz.Q.lstO_, Vz.Q.v_append, Vz.Q.v_insert, Vz.Q.v_extend, Vz.Q.v_popAt, Vz.Q.asInt_, Vz.Q.asLs_, Vz.Q.v_stB, Vz.Q.lim_app, Vz.Q.lim_le, Vz.Q.lim_lt, Vz.Q.addL_, Vz.Q.addD_ll, Vz.Q.addD_tt, Option.bind_some, Option.map_some, addD_ii, subI_ii, ltI_ii, leI_ii, gtI_ii, geI_ii, eqD_ii, isN_non, isN_int, isN_str, List.getElem?_cons_zero, List.getElem?_cons_succ, List.set_cons_zero, List.set_cons_succ, List.length_cons, List.length_nil, List.length_append, Nat.zero_add, Nat.add_zero, Nat.reduceAdd, Nat.reduceSub, Nat.reduceEqDiff, at_app0, at_appk, set_app0, set_appk, List.append_assoc, List.cons_append, List.nil_append, List.append_nil, List.map_cons, List.map_nil, List.replicate, Vz.Q.fn_dat, Vz.Q.fn_nx, Vz.Q.fn_exc, Vz.Q.fn_exn, Vz.Q.fn_loc, Vz.Q.retC_lst, Vz.Q.retC_frz, Vz.Q.retC_dT, Vz.Q.retC_dK, Vz.Q.bodyF_, Vz.Q.bodyO_, Vz.Q.cutR_nil, Vz.Q.cutR_cons, Vz.Q.cutW_dat, Vz.Q.cutW_none, Vz.Q.cutW_exn, Vz.Q.cutW_loc, Vz.Q.cutW_locN, wipeR, List.take_succ_cons, List.take_length, List.take_left, take_appk, List.take_zero, List.take_nil, Vz.Q.v_yes, Vz.Q.v_lcB, Vz.Q.lcO_, Vz.Q.v_cname, Vz.Q.v_ctup, Vz.Q.v_cnnil, Vz.Q.v_cncons, Vz.Q.bb_tf, Vz.Q.bb_ft, Vz.Q.bb_tt, Vz.Q.bb_ff, Vz.Q.bn_tf, Vz.Q.bn_ft, Vz.Q.bn_tt, Vz.Q.bn_ff, eqD_bb, neD_bb, Bool.not_true, Bool.not_false, Bool.and_true, Bool.true_and, Bool.and_self, decide_true, decide_false, eq_self, Vz.Q.v_count, Vz.Q.cntB_l, Vz.Q.v_lam, Vz.Q.v_cat, Vz.Q.v_cseq_t, Vz.Q.v_cseq_l, Vz.Q.v_bor, Vz.Q.borO_b, Vz.Q.borW_dat, Vz.Q.borW_none, Vz.Q.borW_loc, Vz.Q.borC_lst, Vz.Q.borC_frz, Vz.Q.v_setR, Vz.Q.v_cellR, Vz.Q.v_ixR, Vz.Q.v_izd, Vz.Q.par3O_, Vz.Q.v_par3, Vz.Q.v_try, Vz.Q.try_exc, Vz.Q.try_nx, Vz.Q.try_rt, Vz.Q.drop_nx, Vz.Q.drop_rt, Vz.Q.v_raise1, Vz.Q.r1O_, Vz.Q.v_raise0, Vz.Q.v_isNo, Vz.Q.v_isNoN, Vz.Q.isNo_non, Vz.Q.isNo_exn, Vz.Q.v_isX, Vz.Q.isXW_, Vz.Q.v_xf, Vz.Q.xfW_, Vz.Q.v_oseq_t, Vz.Q.v_oseq_l, Vz.Q.enumD_l, Vz.Q.enumD_t, Vz.Q.nums_map, Vz.Q.listD_l, Vz.Q.listD_t, Vz.Q.tupleD_l, Vz.Q.tupleD_t, Vz.Q.lenD_l, Vz.Q.lenD_t, Vz.Q.cutD_l, Vz.Q.cutD_n, Vz.Q.revD_l, Vz.Q.fz_dat, Vz.Q.fz_loc, Vz.Q.fzC_lst, Vz.Q.fzC_frz, Vz.Q.isNN_non, Vz.Q.isNN_int, Vz.Q.isNN_str, Vz.Q.inD_l, Vz.Q.inD_t, Vz.Q.sqB_l, Vz.Q.sqB_t, Bool.false_xor, Bool.true_xor, asI, Vz.Q.walk_dl, Vz.Q.walk_dt, List.length_map, List.map_append, $hs,*])
section
variable {rest : Sto}
end
open PySem PySem.Spec PyProof.Rows L2 Vz Vz.Q Vz.G Vz.T
section
variable {S : Sto} {k : Nat} {L J : List D} {s s' : EdS} {v : Int} {a : Anc} {xs : List Int} {as : List Anc}
end
open PySem PySem.Spec PyProof.Rows L2 Vz Vz.Q Vz.G Vz.T
section
variable {ρ : Rho} {S : Sto}
end
section
variable {S : Sto} {k : Nat} {L J : List D} {s s' : EdS} {v : Int} {a : Anc} {xs : List Int} {as : List Anc}
end
open PySem PySem.Spec PyProof.Rows L2 Vz Vz.Q Vz.G Vz.T
section
variable {S : Sto}
end
inductive EdW where
 | one0 (v : Int)
 | one (v : Int) (a : Anc)
 | all (ps : List (Int × Anc))
 | forget (v : Int)
 | undo
section
variable {S : Sto} {k : Nat} {L J : List D} {s s' : EdS} {v : Int} {a : Anc} {xs : List Int} {as : List Anc}
end
open PySem PySem.Spec PyProof.Rows L2 Vz Vz.Q Vz.G Vz.T
section
variable {S : Sto} {xs : List Int} {as : List Anc} {ms : List Mark}
end
open PySem PySem.Spec PyProof.Rows L2 Vz Vz.Q Vz.G Vz.T
section
variable {S : Sto} {xs : List Int} {as : List Anc} {v : Int} {a : Anc} {j : Nat} {s s' : EdS}
end
open PySem PySem.Spec PyProof.Rows L2 Vz Vz.Q Vz.G Vz.T
section
variable {S rest : Sto} {xs : List Int} {as : List Anc} {v : Int} {a : Anc} {j : Nat} {s s' : EdS} {L : List D}
def AB (a : Anc) : Prop:=∀ k, a = .it k → k.natAbs < 10 ^ 20
end
open PySem PySem.Spec PyProof.Rows L2 Vz Vz.Q Vz.G Vz.T
section
variable {S : Sto} {k : Nat} {J : List D} {s : EdS} {ss : List EdS} {w : EdW}
end
open PySem PySem.Spec PyProof.Rows L2 Vz Vz.Q
section
end
open PySem PySem.Spec PyProof.Rows L2 Vz Vz.Q
section
end
open PySem PySem.Spec PyProof.Rows L2 Vz Vz.Q
section
variable {S : Sto}
end
open PySem PySem.Spec PyProof.Rows L2 Vz Vz.Q
section
variable {S : Sto} {xs : List Int} {as : List Anc} {it t : D}
end
open PySem PySem.Spec PyProof.Rows L2 Vz Vz.Q Vz.G Vz.T
section
variable {S : Sto} {xs : List Int} {as : List Anc} {it t : D}
end
open PySem PySem.Spec PyProof.Rows L2 Vz Vz.Q Vz.G Vz.T
section
variable {S : Sto} {xs : List Int} {as : List Anc} {it t : D} {ms : List Mark}
end
open PySem PySem.Spec PyProof.Rows L2 Vz Vz.Q Vz.G Vz.T
section
variable {xs : List Int} {as : List Anc} {ms : List Mark}
end
open PySem PySem.Spec PyProof.Rows L2 Vz Vz.Q Vz.G Vz.T
section
variable {xs : List Int} {as : List Anc}
def shown (n : Nat) (σ : List Nat) : List (List Nat):=(List.range (n + 1)).map fun k => vw n (σ.take k)
end
open PySem PySem.Spec PyProof.Rows L2 Vz Vz.Q Vz.G Vz.T
section
variable {S : Sto} {xs : List Int} {as : List Anc} {it t : D}
end
open PySem PySem.Spec PyProof.Rows L2 Vz Vz.Q Vz.G Vz.T
section
variable {S : Sto} {xs : List Int} {as : List Anc} {it t : D} {ms : List Mark}
end
open PySem PySem.Spec PyProof.Rows L2 Vz Vz.Q Vz.G Vz.T
section
variable {xs qs : List Int} {Z : ZL} {d : Int × Option Int} {as : List Anc} {σ π : List Nat}
def zst (Z : ZL) (qs : List Int) : EdS:=⟨Z.map Prod.fst, Z.map Prod.snd, qs.map (Z.map Prod.fst).idxOf⟩
def sq (xs qs : List Int) (i : Nat) : EdS:=zst (appZ [] ((stepsQ xs qs).take i)) (qs.take i)
end
end Vz.H
namespace K43
open PySem PySem.Spec PyProof.Rows L2 Vz
theorem tx {K : PySem.W.Frag} {h : Heap} {mg : Str → Option Value} (X : K.In h) (G : h.Ns mainGlobals mg) (c : SaysX xl (ckIns "Editor" (extB LX BX tbP flX)) fa fn K) : Tx K mg :=
 {
  g_marks_of:=He.glo_ok X G (c.d.fact 0 (f:=.glo "marks_of") rfl)
  g_nearest:=He.glo_ok X G (c.d.fact 1 (f:=.glo "nearest") rfl)
  g_fits:=He.glo_ok X G (c.d.fact 2 (f:=.glo "fits") rfl)
  g_present_after:=He.glo_ok X G (c.d.fact 3 (f:=.glo "present_after") rfl)
  g_gaps_of:=He.glo_ok X G (c.d.fact 4 (f:=.glo "gaps_of") rfl)
  g_choose:=He.glo_ok X G (c.d.fact 5 (f:=.glo "choose") rfl)
  g_mixings:=He.glo_ok X G (c.d.fact 6 (f:=.glo "mixings") rfl)
  g_count_rest:=He.glo_ok X G (c.d.fact 7 (f:=.glo "count_rest") rfl)
  g_can_begin:=He.glo_ok X G (c.d.fact 8 (f:=.glo "can_begin") rfl)
  g_gap_table:=He.glo_ok X G (c.d.fact 9 (f:=.glo "gap_table") rfl)
  g_count_after:=He.glo_ok X G (c.d.fact 10 (f:=.glo "count_after") rfl)
  g_put:=He.glo_ok X G (c.d.fact 11 (f:=.glo "put") rfl)
  g_grown:=He.glo_ok X G (c.d.fact 12 (f:=.glo "grown") rfl)
  g_with_anchor:=He.glo_ok X G (c.d.fact 13 (f:=.glo "with_anchor") rfl)
  g_count_orders:=He.glo_ok X G (c.d.fact 14 (f:=.glo "count_orders") rfl)
  g_next_places:=He.glo_ok X G (c.d.fact 15 (f:=.glo "next_places") rfl)
  g_sorted_next:=He.glo_ok X G (c.d.fact 16 (f:=.glo "sorted_next") rfl)
  g_next_items:=He.glo_ok X G (c.d.fact 17 (f:=.glo "next_items") rfl)
  g_anchors_of:=He.glo_ok X G (c.d.fact 18 (f:=.glo "anchors_of") rfl)
  g_steps_of:=He.glo_ok X G (c.d.fact 19 (f:=.glo "steps_of") rfl)
  g_is_integer:=He.glo_ok X G (c.d.fact 20 (f:=.glo "is_integer") rfl)
  g_is_order:=He.glo_ok X G (c.d.fact 21 (f:=.glo "is_order") rfl)
  g_shows_order:=He.glo_ok X G (c.d.fact 22 (f:=.glo "shows_order") rfl)
  g_is_wrong:=He.glo_ok X G (c.d.fact 23 (f:=.glo "is_wrong") rfl)
  g_shows_wrong:=He.glo_ok X G (c.d.fact 24 (f:=.glo "shows_wrong") rfl)
  g_do_cross:=He.glo_ok X G (c.d.fact 25 (f:=.glo "do_cross") rfl)
  g_shows_crossing:=He.glo_ok X G (c.d.fact 26 (f:=.glo "shows_crossing") rfl)
  g__law_equal:=He.glo_ok X G (c.d.fact 27 (f:=.glo "_law_equal") rfl)
  g__law_classes:=He.glo_ok X G (c.d.fact 28 (f:=.glo "_law_classes") rfl)
  g__law_base:=He.glo_ok X G (c.d.fact 29 (f:=.glo "_law_base") rfl)
  g__law_errors_right:=He.glo_ok X G (c.d.fact 30 (f:=.glo "_law_errors_right") rfl)
  g__law_draw:=He.glo_ok X G (c.d.fact 31 (f:=.glo "_law_draw") rfl)
  g__law_holds:=He.glo_ok X G (c.d.fact 32 (f:=.glo "_law_holds") rfl)
  g__law_source:=He.glo_ok X G (c.d.fact 33 (f:=.glo "_law_source") rfl)
  g_law:=He.glo_ok X G (c.d.fact 34 (f:=.glo "law") rfl)
  g_Editor:=He.glo_ok X G (c.d.fact 35 (f:=.glo "Editor") rfl)
  g_Duplicate:=He.glo_ok X G (c.d.fact 36 (f:=.glo "Duplicate") rfl)
  g_Misfit:=He.glo_ok X G (c.d.fact 37 (f:=.glo "Misfit") rfl)
  g_Impossible:=He.glo_ok X G (c.d.fact 38 (f:=.glo "Impossible") rfl)
  g_NotLast:=He.glo_ok X G (c.d.fact 39 (f:=.glo "NotLast") rfl)
  g_BadText:=He.glo_ok X G (c.d.fact 40 (f:=.glo "BadText") rfl)
  g_BadLine:=He.glo_ok X G (c.d.fact 41 (f:=.glo "BadLine") rfl)
  g_Missing:=He.glo_ok X G (c.d.fact 42 (f:=.glo "Missing") rfl)
  g_NoItem:=He.glo_ok X G (c.d.fact 43 (f:=.glo "NoItem") rfl)
  g_NoOrder:=He.glo_ok X G (c.d.fact 44 (f:=.glo "NoOrder") rfl)
  g_NoState:=He.glo_ok X G (c.d.fact 45 (f:=.glo "NoState") rfl)
  g_NoWay:=He.glo_ok X G (c.d.fact 46 (f:=.glo "NoWay") rfl)
  g_TooMany:=He.glo_ok X G (c.d.fact 47 (f:=.glo "TooMany") rfl)
  g_Full:=He.glo_ok X G (c.d.fact 48 (f:=.glo "Full") rfl)
  n_IndexError:=He.free_ok X G (c.d.fact 49 (f:=.free "IndexError") rfl)
  n_KeyError:=He.free_ok X G (c.d.fact 50 (f:=.free "KeyError") rfl)
  n_LookupError:=He.free_ok X G (c.d.fact 51 (f:=.free "LookupError") rfl)
  n_NotImplementedError:=He.free_ok X G (c.d.fact 52 (f:=.free "NotImplementedError") rfl)
  n_OverflowError:=He.free_ok X G (c.d.fact 53 (f:=.free "OverflowError") rfl)
  n_RuntimeError:=He.free_ok X G (c.d.fact 54 (f:=.free "RuntimeError") rfl)
  n_ValueError:=He.free_ok X G (c.d.fact 55 (f:=.free "ValueError") rfl)
  n_ZeroDivisionError:=He.free_ok X G (c.d.fact 56 (f:=.free "ZeroDivisionError") rfl)
  n_abs:=He.free_ok X G (c.d.fact 57 (f:=.free "abs") rfl)
  n_all:=He.free_ok X G (c.d.fact 58 (f:=.free "all") rfl)
  n_bool:=He.free_ok X G (c.d.fact 59 (f:=.free "bool") rfl)
  n_enumerate:=He.free_ok X G (c.d.fact 60 (f:=.free "enumerate") rfl)
  n_int:=He.free_ok X G (c.d.fact 61 (f:=.free "int") rfl)
  n_isinstance:=He.free_ok X G (c.d.fact 62 (f:=.free "isinstance") rfl)
  n_len:=He.free_ok X G (c.d.fact 63 (f:=.free "len") rfl)
  n_list:=He.free_ok X G (c.d.fact 64 (f:=.free "list") rfl)
  n_max:=He.free_ok X G (c.d.fact 65 (f:=.free "max") rfl)
  n_min:=He.free_ok X G (c.d.fact 66 (f:=.free "min") rfl)
  n_range:=He.free_ok X G (c.d.fact 67 (f:=.free "range") rfl)
  n_sorted:=He.free_ok X G (c.d.fact 68 (f:=.free "sorted") rfl)
  n_str:=He.free_ok X G (c.d.fact 69 (f:=.free "str") rfl)
  n_sum:=He.free_ok X G (c.d.fact 70 (f:=.free "sum") rfl)
  n_tuple:=He.free_ok X G (c.d.fact 71 (f:=.free "tuple") rfl)
  n_zip:=He.free_ok X G (c.d.fact 72 (f:=.free "zip") rfl)
  v_UNKNOWN:=He.str_ok X G (c.d.fact 73 (f:=.str "UNKNOWN" "?") rfl)
  v_MOST_LISTED:=He.int_ok X G (c.d.fact 74 (f:=.int "MOST_LISTED" 300) rfl)
  v_BEGIN:=He.str_ok X G (c.d.fact 75 (f:=.str "BEGIN" "begin") rfl)
  v_END:=He.str_ok X G (c.d.fact 76 (f:=.str "END" "end") rfl)
  v_MOST_ITEMS:=He.int_ok X G (c.d.fact 77 (f:=.int "MOST_ITEMS" 12) rfl)
  v_PAIR:=He.int_ok X G (c.d.fact 78 (f:=.int "PAIR" 2) rfl)
  cls_Editor:=He.cls_ok (c.d.fact 79 (f:=.cls "Editor") rfl)
  mk_Editor:=He.mkr_ok (c.d.fact 80 (f:=.mkr "Editor") rfl)
  no_Editor_own_states:=He.noat_ok (c.d.fact 81 (f:=.noat "Editor" "own_states") rfl)
  no_Editor_own_journal:=He.noat_ok (c.d.fact 82 (f:=.noat "Editor" "own_journal") rfl)
  m_Editor_insert_one:=He.meth_ok (c.d.fact 83 (f:=.meth "Editor" "insert_one") rfl)
  m_Editor_insert_all:=He.meth_ok (c.d.fact 84 (f:=.meth "Editor" "insert_all") rfl)
  m_Editor_listed:=He.meth_ok (c.d.fact 85 (f:=.meth "Editor" "listed") rfl)
  m_Editor_anchors:=He.meth_ok (c.d.fact 86 (f:=.meth "Editor" "anchors") rfl)
  m_Editor_count:=He.meth_ok (c.d.fact 87 (f:=.meth "Editor" "count") rfl)
  m_Editor_order:=He.meth_ok (c.d.fact 88 (f:=.meth "Editor" "order") rfl)
  m_Editor_forget:=He.meth_ok (c.d.fact 89 (f:=.meth "Editor" "forget") rfl)
  m_Editor___eq__:=He.meth_ok (c.d.fact 90 (f:=.meth "Editor" "__eq__") rfl)
  m_Editor_operations:=He.meth_ok (c.d.fact 91 (f:=.meth "Editor" "operations") rfl)
  m_Editor_as_of:=He.meth_ok (c.d.fact 92 (f:=.meth "Editor" "as_of") rfl)
  d_marks_of:=c.d.def_ 0 (d:=d_marks_of) rfl
  d_nearest:=c.d.def_ 1 (d:=d_nearest) rfl
  d_fits:=c.d.def_ 2 (d:=d_fits) rfl
  d_present_after:=c.d.def_ 3 (d:=d_present_after) rfl
  d_gaps_of:=c.d.def_ 4 (d:=d_gaps_of) rfl
  d_choose:=c.d.def_ 5 (d:=d_choose) rfl
  d_mixings:=c.d.def_ 6 (d:=d_mixings) rfl
  d_count_rest:=c.d.def_ 7 (d:=d_count_rest) rfl
  d_can_begin:=c.d.def_ 8 (d:=d_can_begin) rfl
  d_gap_table:=c.d.def_ 9 (d:=d_gap_table) rfl
  d_count_after:=c.d.def_ 10 (d:=d_count_after) rfl
  d_put:=c.d.def_ 11 (d:=d_put) rfl
  d_grown:=c.d.def_ 12 (d:=d_grown) rfl
  d_with_anchor:=c.d.def_ 13 (d:=d_with_anchor) rfl
  d_count_orders:=c.d.def_ 14 (d:=d_count_orders) rfl
  d_next_places:=c.d.def_ 15 (d:=d_next_places) rfl
  d_sorted_next:=c.d.def_ 16 (d:=d_sorted_next) rfl
  d_next_items:=c.d.def_ 17 (d:=d_next_items) rfl
  d_anchors_of:=c.d.def_ 18 (d:=d_anchors_of) rfl
  d_steps_of:=c.d.def_ 19 (d:=d_steps_of) rfl
  d_is_integer:=c.d.def_ 20 (d:=d_is_integer) rfl
  d_is_order:=c.d.def_ 21 (d:=d_is_order) rfl
  d_shows_order:=c.d.def_ 22 (d:=d_shows_order) rfl
  d_is_wrong:=c.d.def_ 23 (d:=d_is_wrong) rfl
  d_shows_wrong:=c.d.def_ 24 (d:=d_shows_wrong) rfl
  d_do_cross:=c.d.def_ 25 (d:=d_do_cross) rfl
  d_shows_crossing:=c.d.def_ 26 (d:=d_shows_crossing) rfl
  d__law_equal:=c.d.def_ 27 (d:=d__law_equal) rfl
  d__law_classes:=c.d.def_ 28 (d:=d__law_classes) rfl
  d__law_base:=c.d.def_ 29 (d:=d__law_base) rfl
  d__law_errors_right:=c.d.def_ 30 (d:=d__law_errors_right) rfl
  d__law_draw:=c.d.def_ 31 (d:=d__law_draw) rfl
  d__law_holds:=c.d.def_ 32 (d:=d__law_holds) rfl
  d__law_source:=c.d.def_ 33 (d:=d__law_source) rfl
  d_law:=c.d.def_ 34 (d:=d_law) rfl
  d_Editor_insert_one:=c.d.def_ 35 (d:=d_Editor_insert_one) rfl
  d_Editor_insert_all:=c.d.def_ 36 (d:=d_Editor_insert_all) rfl
  d_Editor_listed:=c.d.def_ 37 (d:=d_Editor_listed) rfl
  d_Editor_anchors:=c.d.def_ 38 (d:=d_Editor_anchors) rfl
  d_Editor_count:=c.d.def_ 39 (d:=d_Editor_count) rfl
  d_Editor_order:=c.d.def_ 40 (d:=d_Editor_order) rfl
  d_Editor_forget:=c.d.def_ 41 (d:=d_Editor_forget) rfl
  d_Editor___eq__:=c.d.def_ 42 (d:=d_Editor___eq__) rfl
  d_Editor_operations:=c.d.def_ 43 (d:=d_Editor_operations) rfl
  d_Editor_as_of:=c.d.def_ 44 (d:=d_Editor_as_of) rfl
  d_Editor___init__:=c.d.def_ 45 (d:=d_Editor___init__) rfl
  d_Duplicate:=c.d.def_ 46 (d:=d_Duplicate) rfl
  d_Misfit:=c.d.def_ 47 (d:=d_Misfit) rfl
  d_Impossible:=c.d.def_ 48 (d:=d_Impossible) rfl
  d_NotLast:=c.d.def_ 49 (d:=d_NotLast) rfl
  d_BadText:=c.d.def_ 50 (d:=d_BadText) rfl
  d_BadLine:=c.d.def_ 51 (d:=d_BadLine) rfl
  d_Missing:=c.d.def_ 52 (d:=d_Missing) rfl
  d_NoItem:=c.d.def_ 53 (d:=d_NoItem) rfl
  d_NoOrder:=c.d.def_ 54 (d:=d_NoOrder) rfl
  d_NoState:=c.d.def_ 55 (d:=d_NoState) rfl
  d_NoWay:=c.d.def_ 56 (d:=d_NoWay) rfl
  d_TooMany:=c.d.def_ 57 (d:=d_TooMany) rfl
  d_Full:=c.d.def_ 58 (d:=d_Full) rfl
  x_Duplicate:=c.x 0 rfl
  x_Misfit:=c.x 1 rfl
  x_Impossible:=c.x 2 rfl
  x_NotLast:=c.x 3 rfl
  x_BadText:=c.x 4 rfl
  x_BadLine:=c.x 5 rfl
  x_Missing:=c.x 6 rfl
  x_NoItem:=c.x 7 rfl
  x_NoOrder:=c.x 8 rfl
  x_NoState:=c.x 9 rfl
  x_NoWay:=c.x 10 rfl
  x_TooMany:=c.x 11 rfl
  x_Full:=c.x 12 rfl
  ext:=extB_ok (ckIns_ok c.asked).1
  ins_Editor:=(ckIns_ok c.asked).2
 }
open Vz.Q Vz.G Vz.H Vz.T
local macro_rules
 | `(tactic| simp_arith [$hs,*]) => `(tactic| simp -implicitDefEqProofs -dsimp (disch:=first | assumption | omega | (simp only [List.length_map, List.length_append, List.length_cons, List.length_nil, List.length_range, List.length_take, List.length_drop, List.length_replicate, List.length_reverse, List.length_zipIdx]; omega)) only [Vz.Q.ifB_t, Vz.Q.ifB_f, Vz.Q.bind_ok, Vz.Q.bind_exc, Vz.Q.then_ok, Vz.Q.then_exc, Vz.Q.andThen_nx, Vz.Q.andThen_rt, Vz.Q.andThen_exc, Vz.Q.andThen_bk, Vz.Q.andThen_ct, Vz.Q.lift_some, Vz.Q.ofo_some, Vz.Q.get_ok, Vz.Q.noX_ok, Vz.Q.ifO_t, Vz.Q.varO_, Vz.Q.v_var, Vz.Q.v_c, Vz.Q.v_bin, Vz.Q.v_b, Vz.Q.asB_, Vz.Q.v_and, Vz.Q.v_or, Vz.Q.v_not, Vz.Q.v_v, Vz.Q.v_andV, Vz.Q.v_orV, Vz.Q.v_notV, Vz.Q.v_if, Vz.Q.v_chain, Vz.Q.v_anil, Vz.Q.v_acons, Vz.Q.v_tup, Vz.Q.v_tupK, Vz.Q.v_frz, Vz.Q.v_cell, Vz.Q.v_disp, Vz.Q.lsO_, Vz.Q.v_cat, Vz.Q.v_call, Vz.Q.v_lcall, Vz.Q.v_app, Vz.Q.v_appK, Vz.Q.v_nil, Vz.Q.v_pass, Vz.Q.v_seq, Vz.Q.v_break, Vz.Q.v_cont, Vz.Q.v_expr, Vz.Q.v_ret, Vz.Q.v_retN, Vz.Q.v_sif, Vz.Q.v_set, Vz.Q.v_setLc, Vz.Q.v_setLf, Vz.Q.v_aug, Vz.Q.parO_, Vz.Q.v_par, Vz.Q.nxO_, Vz.Q.v_asg, Vz.Q.v_oname, Vz.Q.v_onnil, Vz.Q.v_oncons, Vz.Q.v_otup, Vz.Q.v_osub, Vz.Q.v_fz, Vz.Q.v_meth, Vz.Q.v_meth0, Vz.Q.someR_, Vz.Q.v_index, Vz.Q.v_isi, Vz.Q.v_neg, Vz.Q.v_rev, Vz.Q.v_range, Vz.Q.v_sl, Vz.Q.v_no, Vz.Q.v_yesI, Vz.Q.v_dictT, Vz.Q.v_iseq, Vz.Q.v_iargs, Vz.Q.v_ifr, Vz.Q.rd_dat, Vz.Q.rd_loc, Vz.Q.rdC_lst, Vz.Q.rdC_frz, Vz.Q.rdC_dT, Vz.Q.rdC_dK, Vz.Q.rd2_, Vz.Q.rds_nil, Vz.Q.rds_cons, Vz.Q.dats_nil, Vz.Q.dats_cons, Vz.Q.small_1, Vz.Q.small_2, Vz.Q.small_3, Vz.Q.small_0, Vz.Q.small_, Vz.Q.one_, Vz.Q.two_, Vz.Q.frd_dat, Vz.Q.frd_loc, Vz.Q.frdC_frz, Vz.Q.frds_nil, Vz.Q.frds_cons, Vz.Q.LstW_, Vz.Q.lstB_, Vz.Q.lstC_, Vz.Q.lstO_, Vz.Q.v_append, Vz.Q.v_insert, Vz.Q.v_extend, Vz.Q.v_popAt, Vz.Q.asInt_, Vz.Q.asLs_, Vz.Q.v_stB, Vz.Q.lim_app, Vz.Q.lim_le, Vz.Q.lim_lt, Vz.Q.addL_, Vz.Q.addD_ll, Vz.Q.addD_tt, Option.bind_some, Option.map_some, addD_ii, subI_ii, ltI_ii, leI_ii, gtI_ii, geI_ii, eqD_ii, isN_non, isN_int, isN_str, List.getElem?_cons_zero, List.getElem?_cons_succ, List.set_cons_zero, List.set_cons_succ, List.length_cons, List.length_nil, List.length_append, Nat.zero_add, Nat.add_zero, Nat.reduceAdd, Nat.reduceSub, Nat.reduceEqDiff, at_app0, at_appk, set_app0, set_appk, List.append_assoc, List.cons_append, List.nil_append, List.append_nil, List.map_cons, List.map_nil, List.replicate, Vz.Q.fn_dat, Vz.Q.fn_nx, Vz.Q.fn_exc, Vz.Q.fn_exn, Vz.Q.fn_loc, Vz.Q.retC_lst, Vz.Q.retC_frz, Vz.Q.retC_dT, Vz.Q.retC_dK, Vz.Q.bodyF_, Vz.Q.bodyO_, Vz.Q.cutR_nil, Vz.Q.cutR_cons, Vz.Q.cutW_dat, Vz.Q.cutW_none, Vz.Q.cutW_exn, Vz.Q.cutW_loc, Vz.Q.cutW_locN, wipeR, List.take_succ_cons, List.take_length, List.take_left, take_appk, List.take_zero, List.take_nil, Vz.Q.v_yes, Vz.Q.v_lcB, Vz.Q.lcO_, Vz.Q.v_cname, Vz.Q.v_ctup, Vz.Q.v_cnnil, Vz.Q.v_cncons, Vz.Q.bb_tf, Vz.Q.bb_ft, Vz.Q.bb_tt, Vz.Q.bb_ff, Vz.Q.bn_tf, Vz.Q.bn_ft, Vz.Q.bn_tt, Vz.Q.bn_ff, eqD_bb, neD_bb, Bool.not_true, Bool.not_false, Bool.and_true, Bool.true_and, Bool.and_self, decide_true, decide_false, eq_self, $hs,*])
local macro_rules
 | `(tactic| simp_arith! [$hs,*]) => `(tactic| simp -implicitDefEqProofs -dsimp (disch:=first | assumption | omega | (simp only [List.length_map, List.length_append, List.length_cons, List.length_nil, List.length_range, List.length_take, List.length_drop, List.length_replicate, List.length_reverse, List.length_zipIdx]; omega)) only [Vz.Q.ifB_t, Vz.Q.ifB_f, Vz.Q.bind_ok, Vz.Q.bind_exc, Vz.Q.then_ok, Vz.Q.then_exc, Vz.Q.andThen_nx, Vz.Q.andThen_rt, Vz.Q.andThen_exc, Vz.Q.andThen_bk, Vz.Q.andThen_ct, Vz.Q.lift_some, Vz.Q.ofo_some, Vz.Q.get_ok, Vz.Q.noX_ok, Vz.Q.ifO_t, Vz.Q.varO_, Vz.Q.v_var, Vz.Q.v_c, Vz.Q.v_bin, Vz.Q.v_b, Vz.Q.asB_, Vz.Q.v_and, Vz.Q.v_or, Vz.Q.v_not, Vz.Q.v_v, Vz.Q.v_andV, Vz.Q.v_orV, Vz.Q.v_notV, Vz.Q.v_if, Vz.Q.v_chain, Vz.Q.v_anil, Vz.Q.v_acons, Vz.Q.v_tup, Vz.Q.v_tupK, Vz.Q.v_frz, Vz.Q.v_cell, Vz.Q.v_disp, Vz.Q.lsO_, Vz.Q.v_cat, Vz.Q.v_call, Vz.Q.v_lcall, Vz.Q.v_app, Vz.Q.v_appK, Vz.Q.v_nil, Vz.Q.v_pass, Vz.Q.v_seq, Vz.Q.v_break, Vz.Q.v_cont, Vz.Q.v_expr, Vz.Q.v_ret, Vz.Q.v_retN, Vz.Q.v_sif, Vz.Q.v_set, Vz.Q.v_setLc, Vz.Q.v_setLf, Vz.Q.v_aug, Vz.Q.parO_, Vz.Q.v_par, Vz.Q.nxO_, Vz.Q.v_asg, Vz.Q.v_oname, Vz.Q.v_onnil, Vz.Q.v_oncons, Vz.Q.v_otup, Vz.Q.v_osub, Vz.Q.v_fz, Vz.Q.v_meth, Vz.Q.v_meth0, Vz.Q.someR_, Vz.Q.v_index, Vz.Q.v_isi, Vz.Q.v_neg, Vz.Q.v_rev, Vz.Q.v_range, Vz.Q.v_sl, Vz.Q.v_no, Vz.Q.v_yesI, Vz.Q.v_dictT, Vz.Q.v_iseq, Vz.Q.v_iargs, Vz.Q.v_ifr, Vz.Q.rd_dat, Vz.Q.rd_loc, Vz.Q.rdC_lst, Vz.Q.rdC_frz, Vz.Q.rdC_dT, Vz.Q.rdC_dK, Vz.Q.rd2_, Vz.Q.rds_nil, Vz.Q.rds_cons, Vz.Q.dats_nil, Vz.Q.dats_cons, Vz.Q.small_1, Vz.Q.small_2, Vz.Q.small_3, Vz.Q.small_0, Vz.Q.small_, Vz.Q.one_, Vz.Q.two_, Vz.Q.frd_dat, Vz.Q.frd_loc, Vz.Q.frdC_frz, Vz.Q.frds_nil, Vz.Q.frds_cons, Vz.Q.LstW_, Vz.Q.lstB_, Vz.Q.lstC_, Vz.Q.lstO_, Vz.Q.v_append, Vz.Q.v_insert, Vz.Q.v_extend, Vz.Q.v_popAt, Vz.Q.asInt_, Vz.Q.asLs_, Vz.Q.v_stB, Vz.Q.lim_app, Vz.Q.lim_le, Vz.Q.lim_lt, Vz.Q.addL_, Vz.Q.addD_ll, Vz.Q.addD_tt, Option.bind_some, Option.map_some, addD_ii, subI_ii, ltI_ii, leI_ii, gtI_ii, geI_ii, eqD_ii, isN_non, isN_int, isN_str, List.getElem?_cons_zero, List.getElem?_cons_succ, List.set_cons_zero, List.set_cons_succ, List.length_cons, List.length_nil, List.length_append, Nat.zero_add, Nat.add_zero, Nat.reduceAdd, Nat.reduceSub, Nat.reduceEqDiff, at_app0, at_appk, set_app0, set_appk, List.append_assoc, List.cons_append, List.nil_append, List.append_nil, List.map_cons, List.map_nil, List.replicate, Vz.Q.fn_dat, Vz.Q.fn_nx, Vz.Q.fn_exc, Vz.Q.fn_exn, Vz.Q.fn_loc, Vz.Q.retC_lst, Vz.Q.retC_frz, Vz.Q.retC_dT, Vz.Q.retC_dK, Vz.Q.bodyF_, Vz.Q.bodyO_, Vz.Q.cutR_nil, Vz.Q.cutR_cons, Vz.Q.cutW_dat, Vz.Q.cutW_none, Vz.Q.cutW_exn, Vz.Q.cutW_loc, Vz.Q.cutW_locN, wipeR, List.take_succ_cons, List.take_length, List.take_left, take_appk, List.take_zero, List.take_nil, Vz.Q.v_yes, Vz.Q.v_lcB, Vz.Q.lcO_, Vz.Q.v_cname, Vz.Q.v_ctup, Vz.Q.v_cnnil, Vz.Q.v_cncons, Vz.Q.bb_tf, Vz.Q.bb_ft, Vz.Q.bb_tt, Vz.Q.bb_ff, Vz.Q.bn_tf, Vz.Q.bn_ft, Vz.Q.bn_tt, Vz.Q.bn_ff, eqD_bb, neD_bb, Bool.not_true, Bool.not_false, Bool.and_true, Bool.true_and, Bool.and_self, decide_true, decide_false, eq_self, Vz.Q.v_count, Vz.Q.cntB_l, Vz.Q.v_lam, Vz.Q.v_cat, Vz.Q.v_cseq_t, Vz.Q.v_cseq_l, Vz.Q.v_bor, Vz.Q.borO_b, Vz.Q.borW_dat, Vz.Q.borW_none, Vz.Q.borW_loc, Vz.Q.borC_lst, Vz.Q.borC_frz, Vz.Q.v_setR, Vz.Q.v_cellR, Vz.Q.v_ixR, Vz.Q.v_izd, Vz.Q.par3O_, Vz.Q.v_par3, Vz.Q.v_try, Vz.Q.try_exc, Vz.Q.try_nx, Vz.Q.try_rt, Vz.Q.drop_nx, Vz.Q.drop_rt, Vz.Q.v_raise1, Vz.Q.r1O_, Vz.Q.v_raise0, Vz.Q.v_isNo, Vz.Q.v_isNoN, Vz.Q.isNo_non, Vz.Q.isNo_exn, Vz.Q.v_isX, Vz.Q.isXW_, Vz.Q.v_xf, Vz.Q.xfW_, Vz.Q.v_oseq_t, Vz.Q.v_oseq_l, Vz.Q.enumD_l, Vz.Q.enumD_t, Vz.Q.nums_map, Vz.Q.listD_l, Vz.Q.listD_t, Vz.Q.tupleD_l, Vz.Q.tupleD_t, Vz.Q.lenD_l, Vz.Q.lenD_t, Vz.Q.cutD_l, Vz.Q.cutD_n, Vz.Q.revD_l, Vz.Q.fz_dat, Vz.Q.fz_loc, Vz.Q.fzC_lst, Vz.Q.fzC_frz, Vz.Q.isNN_non, Vz.Q.isNN_int, Vz.Q.isNN_str, Vz.Q.inD_l, Vz.Q.inD_t, Vz.Q.sqB_l, Vz.Q.sqB_t, Bool.false_xor, Bool.true_xor, asI, Vz.Q.walk_dl, Vz.Q.walk_dt, List.length_map, List.map_append, $hs,*])
def X12 (d : Int) : List Exn:=[⟨"Duplicate", [("item", .int d)]⟩, ⟨"Misfit", [("place", .int d)]⟩, ⟨"NotLast", [("item", .int d)]⟩, ⟨"BadText", [("entry", .int d)]⟩, ⟨"BadLine", [("line", .int d)]⟩, ⟨"Missing", [("anchor", .int d)]⟩, ⟨"NoItem", [("item", .int d)]⟩, ⟨"NoOrder", [("number", .int d)]⟩, ⟨"NoState", [("many", .int d)]⟩, ⟨"NoWay", [("place", .int d)]⟩, ⟨"TooMany", [("many", .int d)]⟩, ⟨"Full", [("many", .int d)]⟩]
def L12 (d : Int) : D:=.list [.int d, .int d, .int d, .int d, .int d, .int d, .int d, .int d, .int d, .int d, .int d, .int d]
def e43a0 : FS:=(sSet 1 (fDispX (aCons (fMkX "Duplicate" "item" (aCons (fVar 0) aNil)) (aCons (fMkX "Misfit" "place" (aCons (fVar 0) aNil)) (aCons (fMkX "NotLast" "item" (aCons (fVar 0) aNil)) (aCons (fMkX "BadText" "entry" (aCons (fVar 0) aNil)) aNil))))))
def e43a1 : FS:=(sSet 1 (fCatX (fVar 1) (fDispX (aCons (fMkX "BadLine" "line" (aCons (fVar 0) aNil)) (aCons (fMkX "Missing" "anchor" (aCons (fVar 0) aNil)) aNil)))))
def e43a2 : FS:=(sSet 1 (fCatX (fVar 1) (fDispX (aCons (fMkX "NoItem" "item" (aCons (fVar 0) aNil)) (aCons (fMkX "NoOrder" "number" (aCons (fVar 0) aNil)) (aCons (fMkX "NoState" "many" (aCons (fVar 0) aNil)) (aCons (fMkX "NoWay" "place" (aCons (fVar 0) aNil)) (aCons (fMkX "TooMany" "many" (aCons (fVar 0) aNil)) (aCons (fMkX "Full" "many" (aCons (fVar 0) aNil)) aNil)))))))))
def e43a3 : FS:=(sSet 2 (fDispX (aCons (fMkX "Duplicate" "item" (aCons (fVar 0) aNil)) (aCons (fMkX "Misfit" "place" (aCons (fVar 0) aNil)) (aCons (fMkX "NotLast" "item" (aCons (fVar 0) aNil)) aNil)))))
def e43a4 : FS:=(sSet 2 (fCatX (fVar 2) (fDispX (aCons (fMkX "BadText" "entry" (aCons (fVar 0) aNil)) aNil))))
def e43a5 : FS:=(sSet 2 (fCatX (fVar 2) (fDispX (aCons (fMkX "BadLine" "line" (aCons (fVar 0) aNil)) (aCons (fMkX "Missing" "anchor" (aCons (fVar 0) aNil)) (aCons (fMkX "NoItem" "item" (aCons (fVar 0) aNil)) (aCons (fMkX "NoOrder" "number" (aCons (fVar 0) aNil)) aNil)))))))
def e43a6 : FS:=(sSet 2 (fCatX (fVar 2) (fDispX (aCons (fMkX "NoState" "many" (aCons (fVar 0) aNil)) (aCons (fMkX "NoWay" "place" (aCons (fVar 0) aNil)) (aCons (fMkX "TooMany" "many" (aCons (fVar 0) aNil)) (aCons (fMkX "Full" "many" (aCons (fVar 0) aNil)) aNil)))))))
def e43b0 : FS:=(sSet 4 (fFrz (lDisp (aCons (fXf LX "item" (fIxX (fVar 3) (fC (.int 0)))) (aCons (fXf LX "place" (fIxX (fVar 3) (fC (.int 1)))) (aCons (fXf LX "item" (fIxX (fVar 3) (fC (.int 2)))) (aCons (fXf LX "entry" (fIxX (fVar 3) (fC (.int 3)))) (aCons (fXf LX "line" (fIxX (fVar 3) (fC (.int 4)))) (aCons (fXf LX "anchor" (fIxX (fVar 3) (fC (.int 5)))) aNil)))))))))
def e43b1 : FS:=(sSet 4 (fBin addD (fVar 4) (fFrz (lDisp (aCons (fXf LX "item" (fIxX (fVar 3) (fC (.int 6)))) (aCons (fXf LX "number" (fIxX (fVar 3) (fC (.int 7)))) (aCons (fXf LX "many" (fIxX (fVar 3) (fC (.int 8)))) (aCons (fXf LX "place" (fIxX (fVar 3) (fC (.int 9)))) (aCons (fXf LX "many" (fIxX (fVar 3) (fC (.int 10)))) (aCons (fXf LX "many" (fIxX (fVar 3) (fC (.int 11)))) aNil))))))))))
def e43b2 : FS:=(sIf (fOr (fNot (fB (fApp 2 (F__law_equal 8) (aCons (fVar 4) (aCons (fBin mulD (fFrz (lDisp (aCons (fVar 0) aNil))) (fC (.int 12))) aNil))))) (fB (fBin neD (fFrz (lCompX (fVar 3) 5 [5] (fApp 1 F__law_classes (aCons (fVar 5) aNil)))) (fBin mulD (fFrz (lDisp (aCons (fC (.int 1)) aNil))) (fC (.int 12)))))) (sRet (fC (.bool false))) sNil)
def e43b3 : FS:=(sIf (fB (fBin neD (fFrz (lCompX (fVar 3) 5 [5] (fApp 1 F__law_base (aCons (fVar 5) aNil)))) (fBin addD (fBin addD (fBin addD (fBin mulD (fFrz (lDisp (aCons (fC (.int 0)) aNil))) (fC (.int 5))) (fBin mulD (fFrz (lDisp (aCons (fC (.int 1)) aNil))) (fC (.int 4)))) (fFrz (lDisp (aCons (fC (.int 2)) aNil)))) (fBin mulD (fFrz (lDisp (aCons (fC (.int 3)) aNil))) (fC (.int 2)))))) (sRet (fC (.bool false))) sNil)
def e43b : FS:=(sSeq e43b0 (sSeq e43b1 (sSeq e43b2 e43b3)))
def e43z : FS:=(sRet (fBin eqD (fFrz (lDisp (aCons (fApp 1 F__law_classes (aCons (fMkX0 "Impossible") aNil)) (aCons (fApp 1 F__law_base (aCons (fMkX0 "Impossible") aNil)) aNil)))) (fFrz (lDisp (aCons (fC (.int 1)) (aCons (fC (.int 0)) aNil))))))
theorem e43_def : b__law_errors_right = (sSeq e43a0 (sSeq e43a1 (sSeq e43a2 (sSeq e43a3 (sSeq e43a4 (sSeq e43a5 (sSeq e43a6 (sSeq (sForW (aCons (fVar 1) (aCons (fVar 2) aNil)) (oName 3) e43b) e43z)))))))):=rfl
theorem e43a0_ok (d : Int) (c a1 a2 a3 a4 a5 a6 : C) : e43a0 ([some (.dat (.int d)), none, none, none, none, none] : Rho) [c, a1, a2, a3, a4, a5, a6] = .nx ([some (.dat (.int d)), some (.xl ((X12 d).take 4)), none, none, none, none] : Rho) [c, a1, a2, a3, a4, a5, a6]:=by kernel_rfl
theorem e43a1_ok (d : Int) (c a1 a2 a3 a4 a5 a6 : C) : e43a1 ([some (.dat (.int d)), some (.xl ((X12 d).take 4)), none, none, none, none] : Rho) [c, a1, a2, a3, a4, a5, a6] = .nx ([some (.dat (.int d)), some (.xl ((X12 d).take 6)), none, none, none, none] : Rho) [c, a1, a2, a3, a4, a5, a6]:=by kernel_rfl
theorem e43a2_ok (d : Int) (c a1 a2 a3 a4 a5 a6 : C) : e43a2 ([some (.dat (.int d)), some (.xl ((X12 d).take 6)), none, none, none, none] : Rho) [c, a1, a2, a3, a4, a5, a6] = .nx ([some (.dat (.int d)), some (.xl (X12 d)), none, none, none, none] : Rho) [c, a1, a2, a3, a4, a5, a6]:=by kernel_rfl
theorem e43a3_ok (d : Int) (c a1 a2 a3 a4 a5 a6 : C) : e43a3 ([some (.dat (.int d)), some (.xl (X12 d)), none, none, none, none] : Rho) [c, a1, a2, a3, a4, a5, a6] = .nx ([some (.dat (.int d)), some (.xl (X12 d)), some (.xl ((X12 d).take 3)), none, none, none] : Rho) [c, a1, a2, a3, a4, a5, a6]:=by kernel_rfl
theorem e43a4_ok (d : Int) (c a1 a2 a3 a4 a5 a6 : C) : e43a4 ([some (.dat (.int d)), some (.xl (X12 d)), some (.xl ((X12 d).take 3)), none, none, none] : Rho) [c, a1, a2, a3, a4, a5, a6] = .nx ([some (.dat (.int d)), some (.xl (X12 d)), some (.xl ((X12 d).take 4)), none, none, none] : Rho) [c, a1, a2, a3, a4, a5, a6]:=by kernel_rfl
theorem e43a5_ok (d : Int) (c a1 a2 a3 a4 a5 a6 : C) : e43a5 ([some (.dat (.int d)), some (.xl (X12 d)), some (.xl ((X12 d).take 4)), none, none, none] : Rho) [c, a1, a2, a3, a4, a5, a6] = .nx ([some (.dat (.int d)), some (.xl (X12 d)), some (.xl ((X12 d).take 8)), none, none, none] : Rho) [c, a1, a2, a3, a4, a5, a6]:=by kernel_rfl
theorem e43a6_ok (d : Int) (c a1 a2 a3 a4 a5 a6 : C) : e43a6 ([some (.dat (.int d)), some (.xl (X12 d)), some (.xl ((X12 d).take 8)), none, none, none] : Rho) [c, a1, a2, a3, a4, a5, a6] = .nx ([some (.dat (.int d)), some (.xl (X12 d)), some (.xl (X12 d)), none, none, none] : Rho) [c, a1, a2, a3, a4, a5, a6]:=by kernel_rfl
theorem e43b0_ok (d : Int) (c a1 a2 a3 a4 a5 a6 : C) (o : Option W) : e43b0 [some (.dat (.int d)), some (.xl (X12 d)), some (.xl (X12 d)), some (.xl (X12 d)), o, none] [c, a1, a2, a3, a4, a5, a6] = .nx [some (.dat (.int d)), some (.xl (X12 d)), some (.xl (X12 d)), some (.xl (X12 d)), some (.dat (.list [.int d, .int d, .int d, .int d, .int d, .int d])), none] [c, a1, a2, a3, a4, a5, a6]:=by kernel_rfl
theorem e43b1_ok (d : Int) (c a1 a2 a3 a4 a5 a6 : C) : e43b1 [some (.dat (.int d)), some (.xl (X12 d)), some (.xl (X12 d)), some (.xl (X12 d)), some (.dat (.list [.int d, .int d, .int d, .int d, .int d, .int d])), none] [c, a1, a2, a3, a4, a5, a6] = .nx [some (.dat (.int d)), some (.xl (X12 d)), some (.xl (X12 d)), some (.xl (X12 d)), some (.dat (L12 d)), none] [c, a1, a2, a3, a4, a5, a6]:=by kernel_rfl
theorem e43b3_ok (d : Int) (c a1 a2 a3 a4 a5 a6 : C) : e43b3 [some (.dat (.int d)), some (.xl (X12 d)), some (.xl (X12 d)), some (.xl (X12 d)), some (.dat (L12 d)), none] [c, a1, a2, a3, a4, a5, a6] = .nx [some (.dat (.int d)), some (.xl (X12 d)), some (.xl (X12 d)), some (.xl (X12 d)), some (.dat (L12 d)), none] [c, a1, a2, a3, a4, a5, a6]:=by kernel_rfl
theorem cls43 (d : Int) (c a1 a2 a3 a4 a5 a6 : C) : lCompX (fVar 3) 5 [5] (fApp 1 F__law_classes (aCons (fVar 5) aNil)) [some (.dat (.int d)), some (.xl (X12 d)), some (.xl (X12 d)), some (.xl (X12 d)), some (.dat (L12 d)), none] [c, a1, a2, a3, a4, a5, a6] = .ok [.int 1, .int 1, .int 1, .int 1, .int 1, .int 1, .int 1, .int 1, .int 1, .int 1, .int 1, .int 1] [c, a1, a2, a3, a4, a5, a6]:=by kernel_rfl
theorem lq43 (d : Int) {S : Sto} : F__law_equal 8 [.dat (L12 d), .dat (L12 d)] S = .ok (.dat (.bool true)) S:=by
 rw [leq_ok 8 (L12 d) (L12 d) rfl rfl (Nat.le_of_ble_eq_true rfl) (Nat.le_of_ble_eq_true rfl), eqT_refl rfl]
theorem e43b2_ok (d : Int) (c a1 a2 a3 a4 a5 a6 : C) : e43b2 [some (.dat (.int d)), some (.xl (X12 d)), some (.xl (X12 d)), some (.xl (X12 d)), some (.dat (L12 d)), none] [c, a1, a2, a3, a4, a5, a6] = .nx [some (.dat (.int d)), some (.xl (X12 d)), some (.xl (X12 d)), some (.xl (X12 d)), some (.dat (L12 d)), none] [c, a1, a2, a3, a4, a5, a6]:=by
 have m12 : mulD (.list [.int d]) (.int 12) = some (L12 d):=rfl
 have m1 : mulD (.list [.int 1]) (.int 12) = some (.list [.int 1, .int 1, .int 1, .int 1, .int 1, .int 1, .int 1, .int 1, .int 1, .int 1, .int 1, .int 1]):=rfl
 have ne : neD (.list [.int 1, .int 1, .int 1, .int 1, .int 1, .int 1, .int 1, .int 1, .int 1, .int 1, .int 1, .int 1]) (.list [.int 1, .int 1, .int 1, .int 1, .int 1, .int 1, .int 1, .int 1, .int 1, .int 1, .int 1, .int 1]) = some (.bool false):=by kernel_rfl
 have lq:=lq43 d (S:=[c, a1, a2, a3, a4, a5, a6])
 have cl:=cls43 d c a1 a2 a3 a4 a5 a6
 unfold e43b2
 generalize F__law_equal 8 = LE at *
 generalize lCompX (fVar 3) 5 [5] (fApp 1 F__law_classes (aCons (fVar 5) aNil)) = CP at *
 generalize L12 d = LL at *
 generalize X12 d = XX at *
 simp_arith! [m12, lq, cl, m1, ne]
theorem e43b_ok (d : Int) (c a1 a2 a3 a4 a5 a6 : C) (o : Option W) : e43b [some (.dat (.int d)), some (.xl (X12 d)), some (.xl (X12 d)), some (.xl (X12 d)), o, none] [c, a1, a2, a3, a4, a5, a6] = .nx [some (.dat (.int d)), some (.xl (X12 d)), some (.xl (X12 d)), some (.xl (X12 d)), some (.dat (L12 d)), none] [c, a1, a2, a3, a4, a5, a6]:=by
 unfold e43b
 simp only [sSeq, Out.andThen, e43b0_ok, e43b1_ok, e43b2_ok, e43b3_ok]
theorem e43z_ok (d : Int) (c a1 a2 a3 a4 a5 a6 : C) (o : Option W) : e43z [some (.dat (.int d)), some (.xl (X12 d)), some (.xl (X12 d)), o, some (.dat (L12 d)), none] [c, a1, a2, a3, a4, a5, a6] = .rt (.dat (.bool true)) [c, a1, a2, a3, a4, a5, a6]:=by kernel_rfl
theorem forW_two {bd : FS} {w1 w2 : W} {ρ ρ1 ρ2 : Rho} {S : Sto} (h1 : bd (ρ.set 3 (some w1)) S = .nx ρ1 S) (h2 : bd (ρ1.set 3 (some w2)) S = .nx ρ2 S) (g1 : ρ[1]? = some (some w1)) (g2 : ρ[2]? = some (some w2)) (c1 : cutR S.length ρ1 = ρ1) (c2 : cutR S.length ρ2 = ρ2) :
  sForW (aCons (fVar 1) (aCons (fVar 2) aNil)) (oName 3) bd ρ S = .nx ρ2 S:=by
 have d : decide (([w1, w2] : List W).length ≤ 1000) = true:=rfl
 simp only [sForW, aCons, aNil, fVar, g1, g2, R.bind, R.then, d, forWF, bodyW, oName, h1, h2, c1, c2, List.take_length]
theorem errs43 (d : Int) (c a1 a2 a3 a4 a5 a6 : C) : F__law_errors_right [.dat (.int d)] [c, a1, a2, a3, a4, a5, a6] = .ok (.dat (.bool true)) [c, a1, a2, a3, a4, a5, a6]:=by
 refine run_dat (T:=[]) ?_
 rw [e43_def]
 have f : sForW (aCons (fVar 1) (aCons (fVar 2) aNil)) (oName 3) e43b [some (.dat (.int d)), some (.xl (X12 d)), some (.xl (X12 d)), none, none, none] [c, a1, a2, a3, a4, a5, a6] = .nx [some (.dat (.int d)), some (.xl (X12 d)), some (.xl (X12 d)), some (.xl (X12 d)), some (.dat (L12 d)), none] [c, a1, a2, a3, a4, a5, a6] :=
  forW_two (e43b_ok d c a1 a2 a3 a4 a5 a6 none) (e43b_ok d c a1 a2 a3 a4 a5 a6 (some (.dat (L12 d)))) rfl rfl rfl rfl
 have z:=e43z_ok d c a1 a2 a3 a4 a5 a6 (some (.xl (X12 d)))
 have s0 : ([.dat (.int d)].map some ++ List.replicate (6 - ([.dat (.int d)] : List W).length) none : Rho) = [some (.dat (.int d)), none, none, none, none, none]:=rfl
 rw [s0]
 simp only [sSeq, Out.andThen, e43a0_ok, e43a1_ok, e43a2_ok, e43a3_ok, e43a4_ok, e43a5_ok, e43a6_ok, f, z, List.append_nil]
theorem seq_nx43 {A B : FS} {ρ ρ1 : Rho} {S S1 : Sto} (h : A ρ S = .nx ρ1 S1) : sSeq A B ρ S = B ρ1 S1:=by
 unfold sSeq
 rw [h]
 rfl
def r43_0 : Rho:=[some (.loc 0 0), none, none, none, none, none, none, none, none, none]
def s43_0 (c : C) : Sto:=[c]
def r43_1 : Rho:=[some (.loc 0 0), none, none, none, none, some (.dat (.tup .nod [(.int 3), (.int 1), (.int 4), (.int 2)])), some (.dat (.tup .nod [.none, .none, (.int 1), (.int 1)])), none, none, none]
def s43_1 (c : C) : Sto:=[c]
def r43_2 : Rho:=[some (.loc 0 0), some (.dat (.list [(.int 3)])), none, none, none, some (.dat (.tup .nod [(.int 3), (.int 1), (.int 4), (.int 2)])), some (.dat (.tup .nod [.none, .none, (.int 1), (.int 1)])), none, none, none]
def s43_2 (c : C) : Sto:=[c]
def r43_3 : Rho:=[some (.loc 0 0), some (.dat (.list [(.int 3), (.list [(.int 2), (.int 3)])])), none, none, none, some (.dat (.tup .nod [(.int 3), (.int 1), (.int 4), (.int 2)])), some (.dat (.tup .nod [.none, .none, (.int 1), (.int 1)])), none, none, none]
def s43_3 (c : C) : Sto:=[c]
def r43_4 : Rho:=[some (.loc 0 0), some (.dat (.list [(.int 3), (.list [(.int 2), (.int 3)]), (.list [(.tup .nod [(.int 1), .none]), (.tup .nod [(.int 2), (.int 1)]), (.tup .nod [(.int 3), .none]), (.tup .nod [(.int 4), (.int 1)])])])), none, none, none, some (.dat (.tup .nod [(.int 3), (.int 1), (.int 4), (.int 2)])), some (.dat (.tup .nod [.none, .none, (.int 1), (.int 1)])), none, none, none]
def s43_4 (c : C) : Sto:=[c]
def r43_5 : Rho:=[some (.loc 0 0), some (.dat (.list [(.int 3), (.list [(.int 2), (.int 3)]), (.list [(.tup .nod [(.int 1), .none]), (.tup .nod [(.int 2), (.int 1)]), (.tup .nod [(.int 3), .none]), (.tup .nod [(.int 4), (.int 1)])]), (.bool true)])), none, none, none, some (.dat (.tup .nod [(.int 3), (.int 1), (.int 4), (.int 2)])), some (.dat (.tup .nod [.none, .none, (.int 1), (.int 1)])), none, none, none]
def s43_5 (c : C) : Sto:=[c]
def r43_6 : Rho:=[some (.loc 0 0), some (.dat (.list [(.int 3), (.list [(.int 2), (.int 3)]), (.list [(.tup .nod [(.int 1), .none]), (.tup .nod [(.int 2), (.int 1)]), (.tup .nod [(.int 3), .none]), (.tup .nod [(.int 4), (.int 1)])]), (.bool true), (.bool false)])), none, none, none, some (.dat (.tup .nod [(.int 3), (.int 1), (.int 4), (.int 2)])), some (.dat (.tup .nod [.none, .none, (.int 1), (.int 1)])), none, none, none]
def s43_6 (c : C) : Sto:=[c]
def r43_7 : Rho:=[some (.loc 0 0), some (.dat (.list [(.int 3), (.list [(.int 2), (.int 3)]), (.list [(.tup .nod [(.int 1), .none]), (.tup .nod [(.int 2), (.int 1)]), (.tup .nod [(.int 3), .none]), (.tup .nod [(.int 4), (.int 1)])]), (.bool true), (.bool false), (.bool false)])), none, none, none, some (.dat (.tup .nod [(.int 3), (.int 1), (.int 4), (.int 2)])), some (.dat (.tup .nod [.none, .none, (.int 1), (.int 1)])), none, none, none]
def s43_7 (c : C) : Sto:=[c]
def r43_8 : Rho:=[some (.loc 0 0), some (.dat (.list [(.int 3), (.list [(.int 2), (.int 3)]), (.list [(.tup .nod [(.int 1), .none]), (.tup .nod [(.int 2), (.int 1)]), (.tup .nod [(.int 3), .none]), (.tup .nod [(.int 4), (.int 1)])]), (.bool true), (.bool false), (.bool false)])), some (.dat (.list [(.int 3), (.list [(.int 2), (.int 3)]), (.list [(.tup .nod [(.int 1), .none]), (.tup .nod [(.int 2), (.int 1)]), (.tup .nod [(.int 3), .none]), (.tup .nod [(.int 4), (.int 1)])]), (.bool true), (.bool false), (.bool false)])), none, none, some (.dat (.tup .nod [(.int 3), (.int 1), (.int 4), (.int 2)])), some (.dat (.tup .nod [.none, .none, (.int 1), (.int 1)])), none, none, none]
def s43_8 (c : C) : Sto:=[c]
def r43_9 : Rho:=[some (.loc 0 0), some (.dat (.list [(.int 3), (.list [(.int 2), (.int 3)]), (.list [(.tup .nod [(.int 1), .none]), (.tup .nod [(.int 2), (.int 1)]), (.tup .nod [(.int 3), .none]), (.tup .nod [(.int 4), (.int 1)])]), (.bool true), (.bool false), (.bool false)])), some (.dat (.list [(.int 3), (.list [(.int 2), (.int 3)]), (.list [(.tup .nod [(.int 1), .none]), (.tup .nod [(.int 2), (.int 1)]), (.tup .nod [(.int 3), .none]), (.tup .nod [(.int 4), (.int 1)])]), (.bool true), (.bool false), (.bool false)])), none, none, some (.dat (.tup .nod [(.int 3), (.int 1), (.int 4), (.int 2)])), some (.dat (.tup .nod [.none, .none, (.int 1), (.int 1)])), none, none, none]
def s43_9 (c : C) : Sto:=[c]
def r43_10 : Rho:=[some (.loc 0 0), some (.dat (.list [(.int 3), (.list [(.int 2), (.int 3)]), (.list [(.tup .nod [(.int 1), .none]), (.tup .nod [(.int 2), (.int 1)]), (.tup .nod [(.int 3), .none]), (.tup .nod [(.int 4), (.int 1)])]), (.bool true), (.bool false), (.bool false)])), some (.dat (.list [(.int 3), (.list [(.int 2), (.int 3)]), (.list [(.tup .nod [(.int 1), .none]), (.tup .nod [(.int 2), (.int 1)]), (.tup .nod [(.int 3), .none]), (.tup .nod [(.int 4), (.int 1)])]), (.bool true), (.bool false), (.bool false)])), none, none, some (.dat (.tup .nod [(.int 3), (.int 1), (.int 4), (.int 2)])), some (.dat (.tup .nod [.none, .none, (.int 1), (.int 1)])), some (.loc 1 0), some (.loc 2 0), none]
def s43_10 (c : C) : Sto:=[c, (.ins "Editor" [("own_states", [(.tup .nod [(.tup .nod []), (.tup .nod []), (.tup .nod [])])]), ("own_journal", [])]), (.ins "Editor" [("own_states", [(.tup .nod [(.tup .nod []), (.tup .nod []), (.tup .nod [])])]), ("own_journal", [])])]
def r43_11 : Rho:=[some (.loc 0 0), some (.dat (.list [(.int 3), (.list [(.int 2), (.int 3)]), (.list [(.tup .nod [(.int 1), .none]), (.tup .nod [(.int 2), (.int 1)]), (.tup .nod [(.int 3), .none]), (.tup .nod [(.int 4), (.int 1)])]), (.bool true), (.bool false), (.bool false)])), some (.dat (.list [(.int 3), (.list [(.int 2), (.int 3)]), (.list [(.tup .nod [(.int 1), .none]), (.tup .nod [(.int 2), (.int 1)]), (.tup .nod [(.int 3), .none]), (.tup .nod [(.int 4), (.int 1)])]), (.bool true), (.bool false), (.bool false)])), some (.dat (.list [(.int 0), (.int 1), (.list [(.int 0)]), (.int 3)])), none, some (.dat (.tup .nod [(.int 3), (.int 1), (.int 4), (.int 2)])), some (.dat (.tup .nod [.none, .none, (.int 1), (.int 1)])), some (.loc 1 0), some (.loc 2 0), none]
def s43_11 (c : C) : Sto:=[c, (.ins "Editor" [("own_states", [(.tup .nod [(.tup .nod []), (.tup .nod []), (.tup .nod [])]), (.tup .nod [(.tup .nod [(.int 1)]), (.tup .nod [.none]), (.tup .nod [(.int 1)])]), (.tup .nod [(.tup .nod [(.int 1), (.int 2)]), (.tup .nod [.none, (.int 1)]), (.tup .nod [(.int 1), (.int 2)])]), (.tup .nod [(.tup .nod [(.int 3), (.int 1), (.int 2)]), (.tup .nod [.none, .none, (.int 1)]), (.tup .nod [(.int 1), (.int 2), (.int 3)])]), (.tup .nod [(.tup .nod [(.int 3), (.int 1), (.int 2)]), (.tup .nod [.none, .none, (.str "?")]), (.tup .nod [(.int 1), (.int 2), (.int 3)])])]), ("own_journal", [(.tup .nod [(.str "begin"), (.str "insert_one")]), (.tup .nod [(.str "end"), (.str "insert_one")]), (.tup .nod [(.str "begin"), (.str "insert_one")]), (.tup .nod [(.str "end"), (.str "insert_one")]), (.tup .nod [(.str "begin"), (.str "insert_all")]), (.tup .nod [(.str "end"), (.str "insert_all")]), (.tup .nod [(.str "begin"), (.str "forget")]), (.tup .nod [(.str "end"), (.str "forget")])])]), (.ins "Editor" [("own_states", [(.tup .nod [(.tup .nod []), (.tup .nod []), (.tup .nod [])])]), ("own_journal", [])])]
def r43_12 : Rho:=[some (.loc 0 0), some (.dat (.list [(.int 3), (.list [(.int 2), (.int 3)]), (.list [(.tup .nod [(.int 1), .none]), (.tup .nod [(.int 2), (.int 1)]), (.tup .nod [(.int 3), .none]), (.tup .nod [(.int 4), (.int 1)])]), (.bool true), (.bool false), (.bool false)])), some (.dat (.list [(.int 3), (.list [(.int 2), (.int 3)]), (.list [(.tup .nod [(.int 1), .none]), (.tup .nod [(.int 2), (.int 1)]), (.tup .nod [(.int 3), .none]), (.tup .nod [(.int 4), (.int 1)])]), (.bool true), (.bool false), (.bool false)])), some (.dat (.list [(.int 0), (.int 1), (.list [(.int 0)]), (.int 3), (.tup .nod [(.int 1), (.int 2)])])), none, some (.dat (.tup .nod [(.int 3), (.int 1), (.int 4), (.int 2)])), some (.dat (.tup .nod [.none, .none, (.int 1), (.int 1)])), some (.loc 1 0), some (.loc 2 0), none]
def s43_12 (c : C) : Sto:=[c, (.ins "Editor" [("own_states", [(.tup .nod [(.tup .nod []), (.tup .nod []), (.tup .nod [])]), (.tup .nod [(.tup .nod [(.int 1)]), (.tup .nod [.none]), (.tup .nod [(.int 1)])]), (.tup .nod [(.tup .nod [(.int 1), (.int 2)]), (.tup .nod [.none, (.int 1)]), (.tup .nod [(.int 1), (.int 2)])]), (.tup .nod [(.tup .nod [(.int 3), (.int 1), (.int 2)]), (.tup .nod [.none, .none, (.int 1)]), (.tup .nod [(.int 1), (.int 2), (.int 3)])]), (.tup .nod [(.tup .nod [(.int 3), (.int 1), (.int 2)]), (.tup .nod [.none, .none, (.str "?")]), (.tup .nod [(.int 1), (.int 2), (.int 3)])])]), ("own_journal", [(.tup .nod [(.str "begin"), (.str "insert_one")]), (.tup .nod [(.str "end"), (.str "insert_one")]), (.tup .nod [(.str "begin"), (.str "insert_one")]), (.tup .nod [(.str "end"), (.str "insert_one")]), (.tup .nod [(.str "begin"), (.str "insert_all")]), (.tup .nod [(.str "end"), (.str "insert_all")]), (.tup .nod [(.str "begin"), (.str "forget")]), (.tup .nod [(.str "end"), (.str "forget")])])]), (.ins "Editor" [("own_states", [(.tup .nod [(.tup .nod []), (.tup .nod []), (.tup .nod [])])]), ("own_journal", [])]), (.ins "Editor" [("own_states", [(.tup .nod [(.tup .nod []), (.tup .nod []), (.tup .nod [])]), (.tup .nod [(.tup .nod [(.int 1)]), (.tup .nod [.none]), (.tup .nod [(.int 1)])]), (.tup .nod [(.tup .nod [(.int 1), (.int 2)]), (.tup .nod [.none, (.int 1)]), (.tup .nod [(.int 1), (.int 2)])])]), ("own_journal", [])])]
def r43_13 : Rho:=[some (.loc 0 0), some (.dat (.list [(.int 3), (.list [(.int 2), (.int 3)]), (.list [(.tup .nod [(.int 1), .none]), (.tup .nod [(.int 2), (.int 1)]), (.tup .nod [(.int 3), .none]), (.tup .nod [(.int 4), (.int 1)])]), (.bool true), (.bool false), (.bool false)])), some (.dat (.list [(.int 3), (.list [(.int 2), (.int 3)]), (.list [(.tup .nod [(.int 1), .none]), (.tup .nod [(.int 2), (.int 1)]), (.tup .nod [(.int 3), .none]), (.tup .nod [(.int 4), (.int 1)])]), (.bool true), (.bool false), (.bool false)])), some (.dat (.list [(.int 0), (.int 1), (.list [(.int 0)]), (.int 3), (.tup .nod [(.int 1), (.int 2)])])), some (.loc 4 0), some (.dat (.tup .nod [(.int 3), (.int 1), (.int 4), (.int 2)])), some (.dat (.tup .nod [.none, .none, (.int 1), (.int 1)])), some (.loc 1 0), some (.loc 2 0), none]
def s43_13 (c : C) : Sto:=[c, (.ins "Editor" [("own_states", [(.tup .nod [(.tup .nod []), (.tup .nod []), (.tup .nod [])]), (.tup .nod [(.tup .nod [(.int 1)]), (.tup .nod [.none]), (.tup .nod [(.int 1)])]), (.tup .nod [(.tup .nod [(.int 1), (.int 2)]), (.tup .nod [.none, (.int 1)]), (.tup .nod [(.int 1), (.int 2)])]), (.tup .nod [(.tup .nod [(.int 3), (.int 1), (.int 2)]), (.tup .nod [.none, .none, (.int 1)]), (.tup .nod [(.int 1), (.int 2), (.int 3)])]), (.tup .nod [(.tup .nod [(.int 3), (.int 1), (.int 2)]), (.tup .nod [.none, .none, (.str "?")]), (.tup .nod [(.int 1), (.int 2), (.int 3)])])]), ("own_journal", [(.tup .nod [(.str "begin"), (.str "insert_one")]), (.tup .nod [(.str "end"), (.str "insert_one")]), (.tup .nod [(.str "begin"), (.str "insert_one")]), (.tup .nod [(.str "end"), (.str "insert_one")]), (.tup .nod [(.str "begin"), (.str "insert_all")]), (.tup .nod [(.str "end"), (.str "insert_all")]), (.tup .nod [(.str "begin"), (.str "forget")]), (.tup .nod [(.str "end"), (.str "forget")])])]), (.ins "Editor" [("own_states", [(.tup .nod [(.tup .nod []), (.tup .nod []), (.tup .nod [])]), (.tup .nod [(.tup .nod [(.int 1)]), (.tup .nod [.none]), (.tup .nod [(.int 1)])]), (.tup .nod [(.tup .nod [(.int 1), (.int 2)]), (.tup .nod [.none, (.int 1)]), (.tup .nod [(.int 1), (.int 2)])]), (.tup .nod [(.tup .nod [(.int 3), (.int 1), (.int 2)]), (.tup .nod [.none, .none, (.int 1)]), (.tup .nod [(.int 1), (.int 2), (.int 3)])])]), ("own_journal", [(.tup .nod [(.str "begin"), (.str "insert_one")]), (.tup .nod [(.str "end"), (.str "insert_one")]), (.tup .nod [(.str "begin"), (.str "insert_one")]), (.tup .nod [(.str "end"), (.str "insert_one")]), (.tup .nod [(.str "begin"), (.str "insert_all")]), (.tup .nod [(.str "end"), (.str "insert_all")])])]), (.ins "Editor" [("own_states", [(.tup .nod [(.tup .nod []), (.tup .nod []), (.tup .nod [])]), (.tup .nod [(.tup .nod [(.int 1)]), (.tup .nod [.none]), (.tup .nod [(.int 1)])]), (.tup .nod [(.tup .nod [(.int 1), (.int 2)]), (.tup .nod [.none, (.int 1)]), (.tup .nod [(.int 1), (.int 2)])])]), ("own_journal", [])]), (.lst [(.int 0), (.int 1), (.list [(.int 0)])])]
def r43_14 : Rho:=[some (.loc 0 0), some (.dat (.list [(.int 3), (.list [(.int 2), (.int 3)]), (.list [(.tup .nod [(.int 1), .none]), (.tup .nod [(.int 2), (.int 1)]), (.tup .nod [(.int 3), .none]), (.tup .nod [(.int 4), (.int 1)])]), (.bool true), (.bool false), (.bool false)])), some (.dat (.list [(.int 3), (.list [(.int 2), (.int 3)]), (.list [(.tup .nod [(.int 1), .none]), (.tup .nod [(.int 2), (.int 1)]), (.tup .nod [(.int 3), .none]), (.tup .nod [(.int 4), (.int 1)])]), (.bool true), (.bool false), (.bool false)])), some (.dat (.list [(.int 0), (.int 1), (.list [(.int 0)]), (.int 3), (.tup .nod [(.int 1), (.int 2)])])), some (.loc 5 0), some (.dat (.tup .nod [(.int 3), (.int 1), (.int 4), (.int 2)])), some (.dat (.tup .nod [.none, .none, (.int 1), (.int 1)])), some (.loc 1 0), some (.loc 2 0), none]
def s43_14 (c : C) : Sto:=[c, (.ins "Editor" [("own_states", [(.tup .nod [(.tup .nod []), (.tup .nod []), (.tup .nod [])]), (.tup .nod [(.tup .nod [(.int 1)]), (.tup .nod [.none]), (.tup .nod [(.int 1)])]), (.tup .nod [(.tup .nod [(.int 1), (.int 2)]), (.tup .nod [.none, (.int 1)]), (.tup .nod [(.int 1), (.int 2)])]), (.tup .nod [(.tup .nod [(.int 3), (.int 1), (.int 2)]), (.tup .nod [.none, .none, (.int 1)]), (.tup .nod [(.int 1), (.int 2), (.int 3)])]), (.tup .nod [(.tup .nod [(.int 3), (.int 1), (.int 2)]), (.tup .nod [.none, .none, (.str "?")]), (.tup .nod [(.int 1), (.int 2), (.int 3)])])]), ("own_journal", [(.tup .nod [(.str "begin"), (.str "insert_one")]), (.tup .nod [(.str "end"), (.str "insert_one")]), (.tup .nod [(.str "begin"), (.str "insert_one")]), (.tup .nod [(.str "end"), (.str "insert_one")]), (.tup .nod [(.str "begin"), (.str "insert_all")]), (.tup .nod [(.str "end"), (.str "insert_all")]), (.tup .nod [(.str "begin"), (.str "forget")]), (.tup .nod [(.str "end"), (.str "forget")])])]), (.ins "Editor" [("own_states", [(.tup .nod [(.tup .nod []), (.tup .nod []), (.tup .nod [])]), (.tup .nod [(.tup .nod [(.int 1)]), (.tup .nod [.none]), (.tup .nod [(.int 1)])]), (.tup .nod [(.tup .nod [(.int 1), (.int 2)]), (.tup .nod [.none, (.int 1)]), (.tup .nod [(.int 1), (.int 2)])]), (.tup .nod [(.tup .nod [(.int 3), (.int 1), (.int 2)]), (.tup .nod [.none, .none, (.int 1)]), (.tup .nod [(.int 1), (.int 2), (.int 3)])]), (.tup .nod [(.tup .nod [(.int 3), (.int 1), (.int 2)]), (.tup .nod [.none, .none, (.str "?")]), (.tup .nod [(.int 1), (.int 2), (.int 3)])])]), ("own_journal", [(.tup .nod [(.str "begin"), (.str "insert_one")]), (.tup .nod [(.str "end"), (.str "insert_one")]), (.tup .nod [(.str "begin"), (.str "insert_one")]), (.tup .nod [(.str "end"), (.str "insert_one")]), (.tup .nod [(.str "begin"), (.str "insert_all")]), (.tup .nod [(.str "end"), (.str "insert_all")]), (.tup .nod [(.str "begin"), (.str "forget")]), (.tup .nod [(.str "end"), (.str "forget")])])]), (.ins "Editor" [("own_states", [(.tup .nod [(.tup .nod []), (.tup .nod []), (.tup .nod [])]), (.tup .nod [(.tup .nod [(.int 1)]), (.tup .nod [.none]), (.tup .nod [(.int 1)])]), (.tup .nod [(.tup .nod [(.int 1), (.int 2)]), (.tup .nod [.none, (.int 1)]), (.tup .nod [(.int 1), (.int 2)])])]), ("own_journal", [])]), (.lst [(.int 0), (.int 1), (.list [(.int 0)])]), (.lst [(.int 0), (.int 1), (.list [(.int 0)]), (.int 3)])]
def r43_15 : Rho:=[some (.loc 0 0), some (.dat (.list [(.int 3), (.list [(.int 2), (.int 3)]), (.list [(.tup .nod [(.int 1), .none]), (.tup .nod [(.int 2), (.int 1)]), (.tup .nod [(.int 3), .none]), (.tup .nod [(.int 4), (.int 1)])]), (.bool true), (.bool false), (.bool false)])), some (.dat (.list [(.int 3), (.list [(.int 2), (.int 3)]), (.list [(.tup .nod [(.int 1), .none]), (.tup .nod [(.int 2), (.int 1)]), (.tup .nod [(.int 3), .none]), (.tup .nod [(.int 4), (.int 1)])]), (.bool true), (.bool false), (.bool false)])), some (.dat (.list [(.int 0), (.int 1), (.list [(.int 0)]), (.int 3), (.tup .nod [(.int 1), (.int 2)])])), some (.loc 5 0), some (.dat (.tup .nod [(.int 3), (.int 1), (.int 4), (.int 2)])), some (.dat (.tup .nod [.none, .none, (.int 1), (.int 1)])), some (.loc 1 0), some (.loc 2 0), none]
def s43_15 (c : C) : Sto:=[c, (.ins "Editor" [("own_states", [(.tup .nod [(.tup .nod []), (.tup .nod []), (.tup .nod [])]), (.tup .nod [(.tup .nod [(.int 1)]), (.tup .nod [.none]), (.tup .nod [(.int 1)])]), (.tup .nod [(.tup .nod [(.int 1), (.int 2)]), (.tup .nod [.none, (.int 1)]), (.tup .nod [(.int 1), (.int 2)])]), (.tup .nod [(.tup .nod [(.int 3), (.int 1), (.int 2)]), (.tup .nod [.none, .none, (.int 1)]), (.tup .nod [(.int 1), (.int 2), (.int 3)])]), (.tup .nod [(.tup .nod [(.int 3), (.int 1), (.int 2)]), (.tup .nod [.none, .none, (.str "?")]), (.tup .nod [(.int 1), (.int 2), (.int 3)])])]), ("own_journal", [(.tup .nod [(.str "begin"), (.str "insert_one")]), (.tup .nod [(.str "end"), (.str "insert_one")]), (.tup .nod [(.str "begin"), (.str "insert_one")]), (.tup .nod [(.str "end"), (.str "insert_one")]), (.tup .nod [(.str "begin"), (.str "insert_all")]), (.tup .nod [(.str "end"), (.str "insert_all")]), (.tup .nod [(.str "begin"), (.str "forget")]), (.tup .nod [(.str "end"), (.str "forget")])])]), (.ins "Editor" [("own_states", [(.tup .nod [(.tup .nod []), (.tup .nod []), (.tup .nod [])]), (.tup .nod [(.tup .nod [(.int 1)]), (.tup .nod [.none]), (.tup .nod [(.int 1)])]), (.tup .nod [(.tup .nod [(.int 1), (.int 2)]), (.tup .nod [.none, (.int 1)]), (.tup .nod [(.int 1), (.int 2)])]), (.tup .nod [(.tup .nod [(.int 3), (.int 1), (.int 2)]), (.tup .nod [.none, .none, (.int 1)]), (.tup .nod [(.int 1), (.int 2), (.int 3)])]), (.tup .nod [(.tup .nod [(.int 3), (.int 1), (.int 2)]), (.tup .nod [.none, .none, (.str "?")]), (.tup .nod [(.int 1), (.int 2), (.int 3)])])]), ("own_journal", [(.tup .nod [(.str "begin"), (.str "insert_one")]), (.tup .nod [(.str "end"), (.str "insert_one")]), (.tup .nod [(.str "begin"), (.str "insert_one")]), (.tup .nod [(.str "end"), (.str "insert_one")]), (.tup .nod [(.str "begin"), (.str "insert_all")]), (.tup .nod [(.str "end"), (.str "insert_all")]), (.tup .nod [(.str "begin"), (.str "forget")]), (.tup .nod [(.str "end"), (.str "forget")])])]), (.ins "Editor" [("own_states", [(.tup .nod [(.tup .nod []), (.tup .nod []), (.tup .nod [])]), (.tup .nod [(.tup .nod [(.int 1)]), (.tup .nod [.none]), (.tup .nod [(.int 1)])]), (.tup .nod [(.tup .nod [(.int 1), (.int 2)]), (.tup .nod [.none, (.int 1)]), (.tup .nod [(.int 1), (.int 2)])])]), ("own_journal", [])]), (.lst [(.int 0), (.int 1), (.list [(.int 0)])]), (.lst [(.int 0), (.int 1), (.list [(.int 0)]), (.int 3), (.tup .nod [(.int 1), (.int 2)])]), (.ins "Editor" [("own_states", [(.tup .nod [(.tup .nod []), (.tup .nod []), (.tup .nod [])]), (.tup .nod [(.tup .nod [(.int 1)]), (.tup .nod [.none]), (.tup .nod [(.int 1)])]), (.tup .nod [(.tup .nod [(.int 1), (.int 2)]), (.tup .nod [.none, (.int 1)]), (.tup .nod [(.int 1), (.int 2)])])]), ("own_journal", [])])]
def r43_16 : Rho:=[some (.loc 0 0), some (.dat (.list [(.int 3), (.list [(.int 2), (.int 3)]), (.list [(.tup .nod [(.int 1), .none]), (.tup .nod [(.int 2), (.int 1)]), (.tup .nod [(.int 3), .none]), (.tup .nod [(.int 4), (.int 1)])]), (.bool true), (.bool false), (.bool false)])), some (.dat (.list [(.int 3), (.list [(.int 2), (.int 3)]), (.list [(.tup .nod [(.int 1), .none]), (.tup .nod [(.int 2), (.int 1)]), (.tup .nod [(.int 3), .none]), (.tup .nod [(.int 4), (.int 1)])]), (.bool true), (.bool false), (.bool false)])), some (.dat (.list [(.int 0), (.int 1), (.list [(.int 0)]), (.int 3), (.tup .nod [(.int 1), (.int 2)])])), some (.loc 5 0), some (.dat (.tup .nod [(.int 3), (.int 1), (.int 4), (.int 2)])), some (.dat (.tup .nod [.none, .none, (.int 1), (.int 1)])), some (.loc 1 0), some (.loc 2 0), none]
def s43_16 (c : C) : Sto:=[c, (.ins "Editor" [("own_states", [(.tup .nod [(.tup .nod []), (.tup .nod []), (.tup .nod [])]), (.tup .nod [(.tup .nod [(.int 1)]), (.tup .nod [.none]), (.tup .nod [(.int 1)])]), (.tup .nod [(.tup .nod [(.int 1), (.int 2)]), (.tup .nod [.none, (.int 1)]), (.tup .nod [(.int 1), (.int 2)])]), (.tup .nod [(.tup .nod [(.int 3), (.int 1), (.int 2)]), (.tup .nod [.none, .none, (.int 1)]), (.tup .nod [(.int 1), (.int 2), (.int 3)])]), (.tup .nod [(.tup .nod [(.int 3), (.int 1), (.int 2)]), (.tup .nod [.none, .none, (.str "?")]), (.tup .nod [(.int 1), (.int 2), (.int 3)])])]), ("own_journal", [(.tup .nod [(.str "begin"), (.str "insert_one")]), (.tup .nod [(.str "end"), (.str "insert_one")]), (.tup .nod [(.str "begin"), (.str "insert_one")]), (.tup .nod [(.str "end"), (.str "insert_one")]), (.tup .nod [(.str "begin"), (.str "insert_all")]), (.tup .nod [(.str "end"), (.str "insert_all")]), (.tup .nod [(.str "begin"), (.str "forget")]), (.tup .nod [(.str "end"), (.str "forget")])])]), (.ins "Editor" [("own_states", [(.tup .nod [(.tup .nod []), (.tup .nod []), (.tup .nod [])]), (.tup .nod [(.tup .nod [(.int 1)]), (.tup .nod [.none]), (.tup .nod [(.int 1)])]), (.tup .nod [(.tup .nod [(.int 1), (.int 2)]), (.tup .nod [.none, (.int 1)]), (.tup .nod [(.int 1), (.int 2)])]), (.tup .nod [(.tup .nod [(.int 3), (.int 1), (.int 2)]), (.tup .nod [.none, .none, (.int 1)]), (.tup .nod [(.int 1), (.int 2), (.int 3)])]), (.tup .nod [(.tup .nod [(.int 3), (.int 1), (.int 2)]), (.tup .nod [.none, .none, (.str "?")]), (.tup .nod [(.int 1), (.int 2), (.int 3)])])]), ("own_journal", [(.tup .nod [(.str "begin"), (.str "insert_one")]), (.tup .nod [(.str "end"), (.str "insert_one")]), (.tup .nod [(.str "begin"), (.str "insert_one")]), (.tup .nod [(.str "end"), (.str "insert_one")]), (.tup .nod [(.str "begin"), (.str "insert_all")]), (.tup .nod [(.str "end"), (.str "insert_all")]), (.tup .nod [(.str "begin"), (.str "forget")]), (.tup .nod [(.str "end"), (.str "forget")])])]), (.ins "Editor" [("own_states", [(.tup .nod [(.tup .nod []), (.tup .nod []), (.tup .nod [])]), (.tup .nod [(.tup .nod [(.int 1)]), (.tup .nod [.none]), (.tup .nod [(.int 1)])]), (.tup .nod [(.tup .nod [(.int 1), (.int 2)]), (.tup .nod [.none, (.int 1)]), (.tup .nod [(.int 1), (.int 2)])])]), ("own_journal", [])]), (.lst [(.int 0), (.int 1), (.list [(.int 0)])]), (.frz (.list [(.int 0), (.int 1), (.list [(.int 0)]), (.int 3), (.tup .nod [(.int 1), (.int 2)])])), (.ins "Editor" [("own_states", [(.tup .nod [(.tup .nod []), (.tup .nod []), (.tup .nod [])]), (.tup .nod [(.tup .nod [(.int 1)]), (.tup .nod [.none]), (.tup .nod [(.int 1)])]), (.tup .nod [(.tup .nod [(.int 1), (.int 2)]), (.tup .nod [.none, (.int 1)]), (.tup .nod [(.int 1), (.int 2)])])]), ("own_journal", [])])]
def t43_0 : FS:=(sAsg (fTup (aCons (fTup (aCons (fC (.int 3)) (aCons (fC (.int 1)) (aCons (fC (.int 4)) (aCons (fC (.int 2)) aNil))))) (aCons (fTup (aCons (fC .none) (aCons (fC .none) (aCons (fC (.int 1)) (aCons (fC (.int 1)) aNil))))) aNil))) (oTup 2 (onCons (oName 5) (onCons (oName 6) onNil))))
theorem e43_0 (c : C) : t43_0 r43_0 (s43_0 c) = .nx r43_1 (s43_1 c):=by kernel_rfl
def t43_1 : FS:=(sSet 1 (fFrz (lDisp (aCons (fAppK 3 [2, 1, 0] F_count_after (aCons (fTup (aCons (fC (.int 1)) aNil)) (aCons (fVar 6) (aCons (fVar 5) aNil)))) aNil))))
theorem e43_1 (c : C) : t43_1 r43_1 (s43_1 c) = .nx r43_2 (s43_2 c):=by kernel_rfl
def t43_2 : FS:=(sSet 1 (fBin addD (fVar 1) (fFrz (lDisp (aCons (fAppK 3 [2, 1, 0] F_next_items (aCons (fTup (aCons (fC (.int 1)) aNil)) (aCons (fVar 6) (aCons (fVar 5) aNil)))) aNil)))))
theorem e43_2 (c : C) : t43_2 r43_2 (s43_2 c) = .nx r43_3 (s43_3 c):=by kernel_rfl
def t43_3 : FS:=(sSet 1 (fBin addD (fVar 1) (fFrz (lDisp (aCons (fAppK 2 [1, 0] F_steps_of (aCons (fTup (aCons (fC (.int 1)) (aCons (fC (.int 2)) (aCons (fC (.int 3)) (aCons (fC (.int 4)) aNil))))) (aCons (fVar 5) aNil))) aNil)))))
theorem e43_3 (c : C) : t43_3 r43_3 (s43_3 c) = .nx r43_4 (s43_4 c):=by kernel_rfl
def t43_4 : FS:=(sSet 1 (fBin addD (fVar 1) (fFrz (lDisp (aCons (fAppK 3 [2, 1, 0] F_shows_order (aCons (fTup (aCons (fC (.int 1)) (aCons (fC (.int 2)) (aCons (fC (.int 3)) (aCons (fC (.int 4)) aNil))))) (aCons (fVar 6) (aCons (fVar 5) aNil)))) aNil)))))
theorem e43_4 (c : C) : t43_4 r43_4 (s43_4 c) = .nx r43_5 (s43_5 c):=by kernel_rfl
def t43_5 : FS:=(sSet 1 (fBin addD (fVar 1) (fFrz (lDisp (aCons (fAppK 3 [2, 1, 0] F_shows_wrong (aCons (fC (.int 3)) (aCons (fVar 6) (aCons (fVar 5) aNil)))) aNil)))))
theorem e43_5 (c : C) : t43_5 r43_5 (s43_5 c) = .nx r43_6 (s43_6 c):=by kernel_rfl
def t43_6 : FS:=(sSet 1 (fBin addD (fVar 1) (fFrz (lDisp (aCons (fAppK 3 [2, 1, 0] F_shows_crossing (aCons (fTup (aCons (fC (.int 2)) (aCons (fC (.int 4)) aNil))) (aCons (fVar 6) (aCons (fVar 5) aNil)))) aNil)))))
theorem e43_6 (c : C) : t43_6 r43_6 (s43_6 c) = .nx r43_7 (s43_7 c):=by kernel_rfl
def t43_7 : FS:=(sSet 2 (fFrz (lDisp (aCons (fC (.int 3)) (aCons (fFrz (lDisp (aCons (fC (.int 2)) (aCons (fC (.int 3)) aNil)))) (aCons (fFrz (lDisp (aCons (fTup (aCons (fC (.int 1)) (aCons (fC .none) aNil))) (aCons (fTup (aCons (fC (.int 2)) (aCons (fC (.int 1)) aNil))) (aCons (fTup (aCons (fC (.int 3)) (aCons (fC .none) aNil))) (aCons (fTup (aCons (fC (.int 4)) (aCons (fC (.int 1)) aNil))) aNil)))))) (aCons (fC (.bool true)) (aCons (fC (.bool false)) (aCons (fC (.bool false)) aNil)))))))))
theorem e43_7 (c : C) : t43_7 r43_7 (s43_7 c) = .nx r43_8 (s43_8 c):=by kernel_rfl
def t43_8 : FS:=(sIf (fOr (fNot (fB (fApp 2 (F__law_equal 8) (aCons (fVar 1) (aCons (fVar 2) aNil))))) (fB (fBin neD (fC (.int 300)) (fC (.int 300))))) (sRet (fC (.bool false))) sNil)
theorem e43_8 (c : C) : t43_8 r43_8 (s43_8 c) = .nx r43_9 (s43_9 c):=by kernel_rfl
def t43_9 : FS:=(sPar 7 8 (aCons (fMk "Editor" fs0_Editor) (aCons (fMk "Editor" fs0_Editor) aNil)))
theorem e43_9 (c : C) : t43_9 r43_9 (s43_9 c) = .nx r43_10 (s43_10 c):=by kernel_rfl
def t43_10 : FS:=(sSet 3 (fFrz (lDisp (aCons (fMet "Editor" "insert_one" 1 [.none] F_Editor_insert_one (fVar 7) (aCons (fC (.int 1)) aNil)) (aCons (fMet "Editor" "insert_one" 2 [] F_Editor_insert_one (fVar 7) (aCons (fC (.int 2)) (aCons (fC (.int 1)) aNil))) (aCons (fMet "Editor" "insert_all" 1 [] F_Editor_insert_all (fVar 7) (aCons (fFrz (lDisp (aCons (fTup (aCons (fC (.int 3)) (aCons (fC .none) aNil))) aNil))) aNil)) (aCons (fMet "Editor" "forget" 1 [] F_Editor_forget (fVar 7) (aCons (fC (.int 2)) aNil)) aNil)))))))
theorem e43_10 (c : C) : t43_10 r43_10 (s43_10 c) = .nx r43_11 (s43_11 c):=by kernel_rfl
def t43_11 : FS:=(sSet 3 (fBin addD (fVar 3) (fFrz (lDisp (aCons (fMet "Editor" "listed" 0 [] F_Editor_listed (fMet "Editor" "as_of" 1 [] F_Editor_as_of (fVar 7) (aCons (fC (.int 2)) aNil)) aNil) aNil)))))
theorem e43_11 (c : C) : t43_11 r43_11 (s43_11 c) = .nx r43_12 (s43_12 c):=by kernel_rfl
def t43_12 : FS:=(sSet 4 (fCell (lDisp (aCons (fMet "Editor" "insert_one" 1 [.none] F_Editor_insert_one (fVar 8) (aCons (fC (.int 1)) aNil)) (aCons (fMetK "Editor" "insert_one" 0 [1, 0] F_Editor_insert_one (fVar 8) aNil (aCons (fC (.int 1)) (aCons (fC (.int 2)) aNil))) (aCons (fMetK "Editor" "insert_all" 0 [0] F_Editor_insert_all (fVar 8) aNil (aCons (fFrz (lDisp (aCons (fTup (aCons (fC (.int 3)) (aCons (fC .none) aNil))) aNil))) aNil)) aNil))))))
theorem e43_12 (c : C) : t43_12 r43_12 (s43_12 c) = .nx r43_13 (s43_13 c):=by kernel_rfl
def t43_13 : FS:=(sSet 4 (fCell (lCat (fVar 4) (fFrz (lDisp (aCons (fMetK "Editor" "forget" 0 [0] F_Editor_forget (fVar 8) aNil (aCons (fC (.int 2)) aNil)) aNil))))))
theorem e43_13 (c : C) : t43_13 r43_13 (s43_13 c) = .nx r43_14 (s43_14 c):=by kernel_rfl
def t43_14 : FS:=(sExpr (fMeth mAppend (fVar 4) (aCons (fMet "Editor" "listed" 0 [] F_Editor_listed (fMetK "Editor" "as_of" 0 [0] F_Editor_as_of (fVar 8) aNil (aCons (fC (.int 2)) aNil)) aNil) aNil)))
theorem e43_14 (c : C) : t43_14 r43_14 (s43_14 c) = .nx r43_15 (s43_15 c):=by kernel_rfl
def t43_15 : FS:=(sIf (fOr (fNot (fB (fApp 2 (F__law_equal 8) (aCons (fVar 3) (aCons (fFz (fVar 4)) aNil))))) (fNot (fB (fEqI "Editor" F_Editor___eq__ (fVar 7) (fVar 8))))) (sRet (fC (.bool false))) sNil)
theorem e43_15 (c : C) : t43_15 r43_15 (s43_15 c) = .nx r43_16 (s43_16 c):=by kernel_rfl
def t43_l : FS:=(sRet (fCall allD (aCons (fFrz (lComp (iSeq (fTup (aCons (fC (.int 0)) (aCons (fC (.int 7)) (aCons (fApp 2 (F__law_draw 3) (aCons (fVar 0) (aCons (fC (.int 60)) aNil))) aNil))))) [9] (cName 9) fYes (fApp 1 F__law_errors_right (aCons (fVar 9) aNil)))) aNil)))
theorem b43 : b__law_holds = (sSeq t43_0 (sSeq t43_1 (sSeq t43_2 (sSeq t43_3 (sSeq t43_4 (sSeq t43_5 (sSeq t43_6 (sSeq t43_7 (sSeq t43_8 (sSeq t43_9 (sSeq t43_10 (sSeq t43_11 (sSeq t43_12 (sSeq t43_13 (sSeq t43_14 (sSeq t43_15 t43_l)))))))))))))))):=rfl
theorem pre43 (c : C) : b__law_holds r43_0 (s43_0 c) = t43_l r43_16 (s43_16 c):=by
 rw [b43]
 exact (seq_nx43 (e43_0 c)).trans ((seq_nx43 (e43_1 c)).trans ((seq_nx43 (e43_2 c)).trans ((seq_nx43 (e43_3 c)).trans ((seq_nx43 (e43_4 c)).trans ((seq_nx43 (e43_5 c)).trans ((seq_nx43 (e43_6 c)).trans ((seq_nx43 (e43_7 c)).trans ((seq_nx43 (e43_8 c)).trans ((seq_nx43 (e43_9 c)).trans ((seq_nx43 (e43_10 c)).trans ((seq_nx43 (e43_11 c)).trans ((seq_nx43 (e43_12 c)).trans ((seq_nx43 (e43_13 c)).trans ((seq_nx43 (e43_14 c)).trans (seq_nx43 (e43_15 c))))))))))))))))
theorem tail43 {x : C} {m : Nat} (hx : SrcOk (m + 2) x) (a1 a2 a3 a4 a5 a6 : C) (o1 o2 o3 o4 o5 o6 o7 o8 : Option W) :
  ∃ y, t43_l [some (.loc 0 0), o1, o2, o3, o4, o5, o6, o7, o8, none] [x, a1, a2, a3, a4, a5, a6] = .rt (.dat (.bool true)) [y, a1, a2, a3, a4, a5, a6]:=by
 have hG : DrawB (F__law_draw 3):=drawB_of
 obtain ⟨r, y, d1, d2, d3⟩:=draw_nat hG (n:=60) (m:=m) (x:=x) hx (by decide) (by decide)
 have d1 : (F__law_draw 3) [.loc 0 0, .dat (.int 60)] [x, a1, a2, a3, a4, a5, a6] = .ok (.dat (.int (r : Int))) [y, a1, a2, a3, a4, a5, a6]:=d1 _
 have ns : ∀ d : Int, F__law_errors_right [.dat (.int d)] [y, a1, a2, a3, a4, a5, a6] = .ok (.dat (.bool true)) [y, a1, a2, a3, a4, a5, a6]:=fun d => errs43 d y a1 a2 a3 a4 a5 a6
 have cmp : lComp (iSeq (fTup (aCons (fC (.int 0)) (aCons (fC (.int 7)) (aCons (fApp 2 (F__law_draw 3) (aCons (fVar 0) (aCons (fC (.int 60)) aNil))) aNil))))) [9] (cName 9) fYes (fApp 1 F__law_errors_right (aCons (fVar 9) aNil)) [some (.loc 0 0), o1, o2, o3, o4, o5, o6, o7, o8, none] [x, a1, a2, a3, a4, a5, a6] = .ok (([0, 7, (r : Int)] : List Int).map fun _ => D.bool true) [y, a1, a2, a3, a4, a5, a6]:=by
  refine x_compM (enc:=D.int) ?_ (Nat.le_of_ble_eq_true rfl) fun v hv => ⟨[], ?_⟩
  ·have e : nD r = .int (r : Int):=rfl
   generalize F__law_draw 3 = DR at d1 ⊢
   simp_arith! [d1, e]
  ·have h1:=ns v
   generalize F__law_errors_right = NS at h1 ⊢
   simp_arith! [h1]
 have al : allD [.list [D.bool true, D.bool true, D.bool true]] = some (.bool true):=rfl
 refine ⟨y, ?_⟩
 unfold t43_l
 generalize lComp (iSeq (fTup (aCons (fC (.int 0)) (aCons (fC (.int 7)) (aCons (fApp 2 (F__law_draw 3) (aCons (fVar 0) (aCons (fC (.int 60)) aNil))) aNil))))) [9] (cName 9) fYes (fApp 1 F__law_errors_right (aCons (fVar 9) aNil)) = CP at cmp ⊢
 simp_arith! [cmp, al]
theorem holds43 (x : C) (hx : SrcOk 500 x) : ∃ S, F__law_holds [.loc 0 0] [x] = .ok (.dat (.bool true)) S:=by
 have e : F__law_holds [.loc 0 0] [x] = Out.fn false 1 (b__law_holds r43_0 (s43_0 x)):=rfl
 rw [e, pre43]
 obtain ⟨y, hy⟩:=tail43 (m:=498) hx _ _ _ _ _ _ _ _ _ _ _ _ _ _
 have hy : t43_l r43_16 (s43_16 x) = _:=hy
 rw [hy]
 exact ⟨_, rfl⟩
theorem law_true (ns : List Int) (h : ns.length ≤ 63) : ∃ S, F_law [.scr ns] [] = .ok (.dat (.bool true)) S :=
 ⟨[], law_all 2 F__law_source F__law_holds ns (by decide) _ (fun i => source_eq ns i) fun i _ => holds43 _ (src_start _ _ (by decide))⟩

end K43
open PySem PySem.W PySem.Calls PyProof.Rows
set_option maxRecDepth 100000 in
set_option maxHeartbeats 0 in
theorem PySem.Challenge.cw_afterlist_k43_names_and_errors_holds : PySem.Challenge.rw_afterlist_k43_names_and_errors.Holds := by
 w_on; o_law
 refine HandSHeadRun.head_any (r:=OpenLaw.row PySem.Challenge.rw_afterlist_k43_names_and_errors) (q:=view (OpenLaw.row PySem.Challenge.rw_afterlist_k43_names_and_errors).prog [63]) (H:=K43.hk) (ob:=K43.ob) (M:=8000) (loose:=K43.loose) (d:=HandSHeadRun.topDef (OpenLaw.row PySem.Challenge.rw_afterlist_k43_names_and_errors).prog 63) (kwd:=[]) K43.ob_eq
  (by kernel_rfl) (fun s => by kernel_rfl) K43.run (by kernel_rfl) (by kernel_rfl) (by kernel_rfl) (by rfl) (by first | assumption | decide +kernel) (by decide +kernel) ⟨rfl, rfl, rfl, rfl, rfl, by decide +kernel⟩ ?hw ?hc
 case hw => w_witness2
 case hc =>
  refine Vz.walk_K (l:=PySem.Challenge.rw_afterlist_k43_names_and_errors) (n:=63) (k:=11) (x:="_law_script") (CX:=Vz.CXL) rfl (by decide) (by kernel_rfl) ⟨rfl, by decide, by decide⟩ ?F Vz.cxl_end
  intro w mg fa h Y G hmg0
  obtain ⟨K, KX, c⟩:=Y
  have hmg : mg ("law" : PySem.Str) = some (.ref fa):=by
   have e : (HandSHeadRun.topDef (OpenLaw.row PySem.Challenge.rw_afterlist_k43_names_and_errors).prog 63).name = ("law" : PySem.Str):=by kernel_rfl
   rw [← e]
   exact hmg0
  have t:=K43.tx KX G c
  have e:=hmg.symm.trans t.g_law
  cases e
  obtain ⟨fd, F⟩:=t.d_law
  have b:=L2.FunD.bindsA (ps:=["_law_script"]) F fun _ _ _ _ _ _ us hl => match us, hl with | [_], _ => rfl
  refine ⟨K, fd, Vz.spV (Vz.TT K) K 1 K43.F_law, KX, fun s v => b s [v] rfl, fun H a ns hl _ hS => Vz.sp_law hS (K43.law_true ns hl) (fun p hp => nomatch hp), fun base _ _ => ?_⟩
  exact Vz.fnK_cxl (((K43.ok_law t)).at_fd (Vz.look_of F))
